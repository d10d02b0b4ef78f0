import PyProof.Rows.All
import HandS.ForMost
import HandS.Wide
import HandS.IsInst
import HandS.WideBits
import HandS.Star
import HandS.Sort
import HandS.Conv
import HandS.Zip
import HandS.Steps
import HandS.Defaults
import HandS.TupAny
import HandS.MakeKw
import HandS.Style
import PySem.Challenge.RW_owncuts_k07_whole_windows_and_own_ones
set_option Elab.async false
set_option linter.all false
set_option maxRecDepth 100000
set_option maxHeartbeats 4000000
/-! ## DL1 -/
/-! DL1: data-level readings over HandS. Data D, worlds, growth, expression judgements DE (a value), DO (a new list), DA (arguments). -/
namespace DL
open PySem PySem.Spec PyProof.Rows L2

/-- data: what a value stands for -/
inductive D where
  | non | bl (b : Bool) | int (i : Int) | str (s : List Nat)
  | lst (xs : List D) | tup (xs : List D) | dct (ks vs : List D) | dcu (ks vs : List D)
  | obj (c : Nat) (fs : List D) | box (t : Nat) (ps : List D) | scr (ns : List Int)
mutual
def D.beq : D → D → Bool
  | .non, .non => true
  | .bl a, .bl b => a == b
  | .int a, .int b => a == b
  | .str a, .str b => a == b
  | .lst a, .lst b => D.beqs a b
  | .tup a, .tup b => D.beqs a b
  | .dct a b, .dct c d => D.beqs a c && D.beqs b d
  | .dcu a b, .dcu c d => D.beqs a c && D.beqs b d
  | .obj a b, .obj c d => a == c && D.beqs b d
  | .box a b, .box c d => a == c && D.beqs b d
  | .scr a, .scr b => a == b
  | _, _ => false
def D.beqs : List D → List D → Bool
  | [], [] => true
  | a :: as, b :: bs => D.beq a b && D.beqs as bs
  | _, _ => false
end
mutual
theorem D.beq_eq : ∀ {a b : D}, D.beq a b = true → a = b
  | .non, b, h => by cases b <;> simp [D.beq] at h ⊢
  | .bl _, b, h => by cases b <;> simp [D.beq] at h ⊢; exact h
  | .int _, b, h => by cases b <;> simp [D.beq] at h ⊢; exact h
  | .str _, b, h => by cases b <;> simp [D.beq] at h ⊢; exact h
  | .lst _, b, h => by cases b <;> simp [D.beq] at h ⊢; exact D.beqs_eq h
  | .tup _, b, h => by cases b <;> simp [D.beq] at h ⊢; exact D.beqs_eq h
  | .dct _ _, b, h => by cases b <;> simp [D.beq] at h ⊢; exact ⟨D.beqs_eq h.1, D.beqs_eq h.2⟩
  | .dcu _ _, b, h => by cases b <;> simp [D.beq] at h ⊢; exact ⟨D.beqs_eq h.1, D.beqs_eq h.2⟩
  | .obj _ _, b, h => by cases b <;> simp [D.beq] at h ⊢; exact ⟨h.1, D.beqs_eq h.2⟩
  | .box _ _, b, h => by cases b <;> simp [D.beq] at h ⊢; exact ⟨h.1, D.beqs_eq h.2⟩
  | .scr _, b, h => by cases b <;> simp [D.beq] at h ⊢; exact h
theorem D.beqs_eq : ∀ {a b : List D}, D.beqs a b = true → a = b
  | [], [], _ => rfl
  | [], _ :: _, h => by simp [D.beqs] at h
  | _ :: _, [], h => by simp [D.beqs] at h
  | a :: as, b :: bs, h => by
    simp only [D.beqs, Bool.and_eq_true] at h
    rw [D.beq_eq h.1, D.beqs_eq h.2]
end
mutual
theorem D.beq_refl : ∀ a : D, D.beq a a = true
  | .non => rfl
  | .bl _ => by simp [D.beq]
  | .int _ => by simp [D.beq]
  | .str _ => by simp [D.beq]
  | .lst a => by simp only [D.beq]; exact D.beqs_refl a
  | .tup a => by simp only [D.beq]; exact D.beqs_refl a
  | .dct a b => by simp only [D.beq, D.beqs_refl a, D.beqs_refl b]; rfl
  | .dcu a b => by simp only [D.beq, D.beqs_refl a, D.beqs_refl b]; rfl
  | .obj a b => by simp only [D.beq, D.beqs_refl b]; simp
  | .box a b => by simp only [D.beq, D.beqs_refl b]; simp
  | .scr _ => by simp [D.beq]
theorem D.beqs_refl : ∀ a : List D, D.beqs a a = true
  | [] => rfl
  | a :: as => by simp only [D.beqs, D.beq_refl a, D.beqs_refl as]; rfl
end
instance : DecidableEq D := fun a b => if h : D.beq a b = true then .isTrue (D.beq_eq h) else .isFalse fun e => h (by rw [e]; exact D.beq_refl b)
instance : Inhabited D := ⟨.non⟩

/-- the shared world: frozen objects, objects under an invariant, a count -/
structure Wd where
  fz : Hp
  iv : Addr → Option (Nat × List D)
  n : Nat

structure Kit where
  K : PySem.W.Frag
  cls : Nat → Option (Addr × List Str)
  J : Nat → List D → Wd → HO → Prop
  mono : ∀ t ps (P P' : Wd) o, (∀ a u, P.fz a = some u → P'.fz a = some u) → (∀ a u, P.iv a = some u → P'.iv a = some u) → P.n ≤ P'.n → J t ps P o → J t ps P' o

def keyD : Key → D
  | .inl i => .int i
  | .inr x => .str x.cps.toList

abbrev IV := Addr → Option (Nat × List D)
/-- a text's size and signs -/
def OkS (s : List Nat) : Prop := s.length ≤ sizeLine ∧ ∀ c ∈ s, c < 1114112
theorem OkS.nil : OkS [] := ⟨Nat.zero_le _, fun _ h => nomatch h⟩
theorem OkS.take {s : List Nat} (h : OkS s) (n : Nat) : OkS (s.take n) := ⟨Nat.le_trans (by rw [List.length_take]; exact Nat.min_le_right _ _) h.1, fun c hc => h.2 c (List.mem_of_mem_take hc)⟩
theorem OkS.drop {s : List Nat} (h : OkS s) (n : Nat) : OkS (s.drop n) := ⟨Nat.le_trans (by rw [List.length_drop]; exact Nat.sub_le _ _) h.1, fun c hc => h.2 c (List.mem_of_mem_drop hc)⟩
theorem OkS.one {s : List Nat} (h : OkS s) {c : Nat} (hc : c ∈ s) : OkS [c] := ⟨by show 1 ≤ sizeLine; decide, fun d hd => by rw [List.mem_singleton.mp hd]; exact h.2 c hc⟩
theorem OkS.app {s t : List Nat} (h : OkS s) (k : OkS t) (z : s.length + t.length ≤ sizeLine) : OkS (s ++ t) := ⟨by rw [List.length_append]; exact z, fun c hc => (List.mem_append.mp hc).elim (h.2 c) (k.2 c)⟩
/-- a dict's keys: no one twice, texts as texts are -/
def OkK : Key → Prop
  | .inl _ => True
  | .inr x => OkS x.cps.toList
def OkKs (ks : List Key) : Prop := ks.Nodup ∧ ∀ k ∈ ks, OkK k
def OkKt (ks : List (List Key)) : Prop := ks.Nodup ∧ ∀ k ∈ ks, ∀ j ∈ k, OkK j
mutual
inductive Rep (κ : Kit) (G : Hp) (iv : IV) : V → D → Prop
  | non : Rep κ G iv .non .non
  | bl {b : Bool} : Rep κ G iv (.bl b) (.bl b)
  | int {i : Int} : Rep κ G iv (.int i) (.int i)
  | str {s : List Nat} (h : OkS s) : Rep κ G iv (.str ⟨s.toArray⟩) (.str s)
  | lst {a : Addr} {vs : List V} {xs : List D} (h : G a = some (.lst vs)) (z : vs.length ≤ sizeLine) (r : Reps κ G iv vs xs) : Rep κ G iv (.ref a) (.lst xs)
  | tup {a : Addr} {vs : List V} {xs : List D} (h : G a = some (.tup vs)) (z : vs.length ≤ sizeLine) (r : Reps κ G iv vs xs) : Rep κ G iv (.ref a) (.tup xs)
  | dctK {a : Addr} {ks : List Key} {us : List V} {vs : List D} (h : G a = some (.dK (ks.zip us))) (hl : ks.length = us.length) (z : ks.length ≤ sizeLine) (nd : OkKs ks) (r : Reps κ G iv us vs) : Rep κ G iv (.ref a) (.dct (ks.map keyD) vs)
  | dctT {a : Addr} {ks : List (List Key)} {us : List V} {vs : List D} (h : G a = some (.dT (ks.zip us))) (hl : ks.length = us.length) (z : ks.length ≤ sizeLine) (nd : OkKt ks) (r : Reps κ G iv us vs) : Rep κ G iv (.ref a) (.dcu (ks.map fun k => .tup (k.map keyD)) vs)
  | obj {a C dx : Addr} {c : Nat} {names : List Str} {us : List V} {fs : List D} (hc : κ.cls c = some (C, names)) (h : G a = some (.ins C dx (names.zip us))) (hl : names.length = us.length) (r : Reps κ G iv us fs) : Rep κ G iv (.ref a) (.obj c fs)
  | box {a : Addr} {t : Nat} {ps : List D} (h : iv a = some (t, ps)) : Rep κ G iv (.ref a) (.box t ps)
  | scr {a : Addr} {ns : List Int} (h : SqL κ.K G a (ns.map V.int)) (z : ns.length ≤ sizeLine) : Rep κ G iv (.ref a) (.scr ns)
inductive Reps (κ : Kit) (G : Hp) (iv : IV) : List V → List D → Prop
  | nil : Reps κ G iv [] []
  | cons {v : V} {d : D} {vs : List V} {ds : List D} (r : Rep κ G iv v d) (t : Reps κ G iv vs ds) : Reps κ G iv (v :: vs) (d :: ds)
end

/-- a dict, which a walk may lock -/
def isDk : HO → Bool
  | .dK _ => true | .dT _ => true | _ => false
/-- it is there, or there and locked -/
def At (H : Hp) (a : Addr) (o : HO) : Prop := H a = some o ∨ (isDk o = true ∧ ∃ od, H a = some (.frz od o))
theorem At.x {H : Hp} {a : Addr} {o : HO} (h : At H a o) (hd : isDk o = false) : H a = some o := by
  rcases h with h | ⟨h, _⟩
  · exact h
  · rw [hd] at h; cases h
theorem At.dom {H : Hp} {a : Addr} {o : HO} (h : At H a o) : ∃ u, H a = some u := by
  rcases h with h | ⟨_, od, h⟩
  · exact ⟨_, h⟩
  · exact ⟨_, h⟩
theorem At.of {H H' : Hp} {a : Addr} {o : HO} (h : At H a o) (e : H' a = H a) : At H' a o := by
  unfold At at h ⊢
  rw [e]; exact h
theorem At.rd {H : Hp} {a : Addr} {o : HO} (h : At H a o) : Rd H a o := by
  rcases h with h | ⟨_, od, h⟩
  · exact .inl h
  · exact .inr ⟨od, h⟩
theorem sql_at {K : PySem.W.Frag} {G H : Hp} (h : ∀ a o, G a = some o → At H a o) {a : Addr} {xs : List V} (q : SqL K G a xs) : SqL K H a xs := by
  rcases q with (q | ⟨o, q⟩) | q
  · exact .inl (.inl ((h _ _ q).x rfl))
  · exact .inl (.inr ⟨o, (h _ _ q).x rfl⟩)
  · exact .inr q
theorem sql_mono {K : PySem.W.Frag} {G H : Hp} (h : ∀ a o, G a = some o → H a = some o) {a : Addr} {xs : List V} (q : SqL K G a xs) : SqL K H a xs := by
  rcases q with (q | ⟨o, q⟩) | q
  · exact .inl (.inl (h _ _ q))
  · exact .inl (.inr ⟨o, h _ _ q⟩)
  · exact .inr q
section
variable {κ : Kit} {G G' : Hp} {iv iv' : IV}
mutual
theorem Rep.mono (hg : ∀ a o, G a = some o → G' a = some o) (hi : ∀ a t, iv a = some t → iv' a = some t) : ∀ {v : V} {d : D}, Rep κ G iv v d → Rep κ G' iv' v d
  | _, _, .non => .non
  | _, _, .bl => .bl
  | _, _, .int => .int
  | _, _, .str h => .str h
  | _, _, .lst h z r => .lst (hg _ _ h) z (Reps.mono hg hi r)
  | _, _, .tup h z r => .tup (hg _ _ h) z (Reps.mono hg hi r)
  | _, _, .dctK h hl z nd r => .dctK (hg _ _ h) hl z nd (Reps.mono hg hi r)
  | _, _, .dctT h hl z nd r => .dctT (hg _ _ h) hl z nd (Reps.mono hg hi r)
  | _, _, .obj hc h hl r => .obj hc (hg _ _ h) hl (Reps.mono hg hi r)
  | _, _, .box h => .box (hi _ _ h)
  | _, _, .scr h z => .scr (sql_mono hg h) z
theorem Reps.mono (hg : ∀ a o, G a = some o → G' a = some o) (hi : ∀ a t, iv a = some t → iv' a = some t) : ∀ {vs : List V} {ds : List D}, Reps κ G iv vs ds → Reps κ G' iv' vs ds
  | _, _, .nil => .nil
  | _, _, .cons r t => .cons (Rep.mono hg hi r) (Reps.mono hg hi t)
end
theorem Reps.length : ∀ {vs : List V} {ds : List D}, Reps κ G iv vs ds → vs.length = ds.length
  | _, _, .nil => rfl
  | _, _, .cons _ t => by rw [List.length_cons, List.length_cons, Reps.length t]
theorem Reps.get : ∀ {vs : List V} {ds : List D} {i : Nat} {d : D}, Reps κ G iv vs ds → ds[i]? = some d → ∃ v, vs[i]? = some v ∧ Rep κ G iv v d
  | _, _, _, _, .nil, e => by simp at e
  | _, _, 0, _, .cons r _, e => by simp at e; subst e; exact ⟨_, rfl, r⟩
  | _, _, i + 1, d, .cons _ t, e => by
    obtain ⟨v, h1, h2⟩ := Reps.get (i := i) (d := d) t (by simpa using e)
    exact ⟨v, by simpa using h1, h2⟩
theorem Reps.getV : ∀ {vs : List V} {ds : List D} {i : Nat} {v : V}, Reps κ G iv vs ds → vs[i]? = some v → ∃ d, ds[i]? = some d ∧ Rep κ G iv v d
  | _, _, _, _, .nil, e => by simp at e
  | _, _, 0, _, .cons r _, e => by simp at e; subst e; exact ⟨_, rfl, r⟩
  | _, _, i + 1, d, .cons _ t, e => by
    obtain ⟨v, h1, h2⟩ := Reps.getV (i := i) (v := d) t (by simpa using e)
    exact ⟨v, by simpa using h1, h2⟩
theorem Reps.append : ∀ {vs us : List V} {ds es : List D}, Reps κ G iv vs ds → Reps κ G iv us es → Reps κ G iv (vs ++ us) (ds ++ es)
  | _, _, _, _, .nil, s => s
  | _, _, _, _, .cons r t, s => .cons r (Reps.append t s)
theorem Reps.take : ∀ {vs : List V} {ds : List D} (n : Nat), Reps κ G iv vs ds → Reps κ G iv (vs.take n) (ds.take n)
  | _, _, 0, _ => .nil
  | _, _, _ + 1, .nil => .nil
  | _, _, n + 1, .cons r t => .cons r (Reps.take n t)
theorem Reps.drop : ∀ {vs : List V} {ds : List D} (n : Nat), Reps κ G iv vs ds → Reps κ G iv (vs.drop n) (ds.drop n)
  | _, _, 0, r => r
  | _, _, _ + 1, .nil => .nil
  | _, _, n + 1, .cons _ t => Reps.drop n t
theorem Reps.set {v : V} {d : D} (r : Rep κ G iv v d) : ∀ {vs : List V} {ds : List D} (i : Nat), Reps κ G iv vs ds → Reps κ G iv (vs.set i v) (ds.set i d)
  | _, _, _, .nil => .nil
  | _, _, 0, .cons _ t => .cons r t
  | _, _, i + 1, .cons q t => .cons q (Reps.set r i t)
theorem Reps.reverse : ∀ {vs : List V} {ds : List D}, Reps κ G iv vs ds → Reps κ G iv vs.reverse ds.reverse
  | _, _, .nil => .nil
  | _, _, .cons r t => by rw [List.reverse_cons, List.reverse_cons]; exact Reps.append (Reps.reverse t) (.cons r .nil)
theorem Reps.ints : ∀ {ns : List Int}, Reps κ G iv (ns.map V.int) (ns.map D.int)
  | [] => .nil
  | _ :: _ => .cons .int Reps.ints
/-- what stands for ints is ints -/
theorem Reps.of_ints : ∀ {vs : List V} {ns : List Int}, Reps κ G iv vs (ns.map D.int) → vs = ns.map V.int
  | _, [], .nil => rfl
  | _, n :: ns, .cons r t => by cases r; rw [Reps.of_ints t]; rfl
theorem Reps.of_bls : ∀ {vs : List V} {bs : List Bool}, Reps κ G iv vs (bs.map D.bl) → vs = bs.map V.bl
  | _, [], .nil => rfl
  | _, n :: ns, .cons r t => by cases r; rw [Reps.of_bls t]; rfl
theorem Reps.of_strs : ∀ {vs : List V} {ss : List (List Nat)}, Reps κ G iv vs (ss.map D.str) → vs = (ss.map fun s => (⟨s.toArray⟩ : Str)).map V.str ∧ ∀ s ∈ ss, OkS s
  | _, [], .nil => ⟨rfl, fun _ h => nomatch h⟩
  | _, n :: ns, .cons r t => by
    cases r with
    | str h =>
      obtain ⟨e, q⟩ := Reps.of_strs t
      exact ⟨by rw [e]; rfl, fun s hs => by
        rcases List.mem_cons.mp hs with rfl | hs
        · exact h
        · exact q s hs⟩
end

/-! ### worlds grow -/
structure Grow (P : Wd) (G H : Hp) (P' : Wd) (G' H' : Hp) : Prop where
  fz : ∀ a o, P.fz a = some o → P'.fz a = some o
  iv : ∀ a t, P.iv a = some t → P'.iv a = some t
  n : P.n ≤ P'.n
  g : ∀ a o, G a = some o → G' a = some o
  h : ∀ a o, H a = some o → P.iv a = none → H' a = some o
  dom : ∀ a o, H a = some o → ∃ o', H' a = some o'
  fresh : ∀ a o, H a = some o → P'.iv a = P.iv a ∧ P'.fz a = P.fz a ∧ G' a = G a
structure Good (κ : Kit) (P : Wd) (G H : Hp) : Prop where
  pg : ∀ a o, P.fz a = some o → G a = some o
  gh : ∀ a o, G a = some o → At H a o
  gi : ∀ a t, P.iv a = some t → G a = none ∧ ∃ o, H a = some o ∧ κ.J t.1 t.2 P o

theorem Good.gx {κ : Kit} {P : Wd} {G H : Hp} (g : Good κ P G H) {a : Addr} {o : HO} (h : G a = some o) (hd : isDk o = false) : H a = some o := (g.gh a o h).x hd
section
variable {κ : Kit} {P P1 P2 : Wd} {G G1 G2 H H1 H2 : Hp}
theorem Grow.refl : Grow P G H P G H := ⟨fun _ _ h => h, fun _ _ h => h, Nat.le_refl _, fun _ _ h => h, fun _ _ h _ => h, fun _ o h => ⟨o, h⟩, fun _ _ _ => ⟨rfl, rfl, rfl⟩⟩
theorem Grow.trans (a : Grow P G H P1 G1 H1) (b : Grow P1 G1 H1 P2 G2 H2) : Grow P G H P2 G2 H2 where
  fz := fun x o h => b.fz x o (a.fz x o h)
  iv := fun x o h => b.iv x o (a.iv x o h)
  n := Nat.le_trans a.n b.n
  g := fun x o h => b.g x o (a.g x o h)
  h := fun x o h n => b.h x o (a.h x o h n) (by rw [(a.fresh x o h).1]; exact n)
  dom := fun x o h => by
    obtain ⟨o', h'⟩ := a.dom x o h
    exact b.dom x o' h'
  fresh := fun x o h => by
    obtain ⟨o', h'⟩ := a.dom x o h
    obtain ⟨a1, a2, a3⟩ := a.fresh x o h
    obtain ⟨b1, b2, b3⟩ := b.fresh x o' h'
    exact ⟨b1.trans a1, b2.trans a2, b3.trans a3⟩
theorem Grow.rep {v : V} {d : D} (a : Grow P G H P1 G1 H1) (r : Rep κ G P.iv v d) : Rep κ G1 P1.iv v d := r.mono a.g a.iv
theorem Grow.reps {v : List V} {d : List D} (a : Grow P G H P1 G1 H1) (r : Reps κ G P.iv v d) : Reps κ G1 P1.iv v d := r.mono a.g a.iv
/-- a new object, private -/
theorem Grow.new {p : Addr} {o : HO} (h : H p = none) : Grow P G H P G (upd H p o) :=
  ⟨fun _ _ h => h, fun _ _ h => h, Nat.le_refl _, fun _ _ h => h, fun a u e _ => by rw [upd_ne (ne_of_none e h)]; exact e, fun a u e => ⟨u, by rw [upd_ne (ne_of_none e h)]; exact e⟩, fun _ _ _ => ⟨rfl, rfl, rfl⟩⟩
theorem Good.gnone (g : Good κ P G H) {p : Addr} (h : H p = none) : G p = none := by
  cases e : G p with
  | none => rfl
  | some o => obtain ⟨u, q⟩ := (g.gh p o e).dom; rw [q] at h; cases h
theorem Good.inone (g : Good κ P G H) {p : Addr} (h : H p = none) : P.iv p = none := by
  cases e : P.iv p with
  | none => rfl
  | some t =>
    obtain ⟨_, o, q, _⟩ := g.gi p t e
    rw [q] at h; cases h
theorem Good.fnone (g : Good κ P G H) {p : Addr} (h : G p = none) : P.fz p = none := by
  cases e : P.fz p with
  | none => rfl
  | some o => rw [g.pg p o e] at h; cases h
theorem Good.new {p : Addr} {o : HO} (g : Good κ P G H) (h : H p = none) : Good κ P G (upd H p o) where
  pg := g.pg
  gh := fun a u e => by
    have e1 := g.gh a u e
    obtain ⟨w, q⟩ := e1.dom
    exact e1.of (upd_ne (ne_of_none q h))
  gi := fun a t e => by
    obtain ⟨q1, u, q2, q3⟩ := g.gi a t e
    exact ⟨q1, u, by rw [upd_ne (ne_of_none q2 h)]; exact q2, q3⟩
/-- a private object changes -/
theorem Good.put {p : Addr} {o : HO} (g : Good κ P G H) (hg : G p = none) (hi : P.iv p = none) : Good κ P G (upd H p o) where
  pg := g.pg
  gh := fun a u e => by
    have hne : a ≠ p := ne_of_none e hg
    exact (g.gh a u e).of (upd_ne hne)
  gi := fun a t e => by
    obtain ⟨q1, u, q2, q3⟩ := g.gi a t e
    have hne : a ≠ p := fun z => by subst z; rw [hi] at e; cases e
    exact ⟨q1, u, by rw [upd_ne hne]; exact q2, q3⟩
/-- an object that was new at the start may change -/
theorem Grow.put {p : Addr} {o : HO} (a : Grow P G H P1 G1 H1) (h : H p = none) : Grow P G H P1 G1 (upd H1 p o) where
  fz := a.fz
  iv := a.iv
  n := a.n
  g := a.g
  h := fun x u e n => by rw [upd_ne (ne_of_none e h)]; exact a.h x u e n
  dom := fun x u e => by
    obtain ⟨o', e'⟩ := a.dom x u e
    exact ⟨o', by rw [upd_ne (ne_of_none e h)]; exact e'⟩
  fresh := a.fresh
/-- a private new object is frozen -/
theorem Grow.frz {p : Addr} {o : HO} (a : Grow P G H P1 G1 H1) (h : H p = none) (hg : G1 p = none) : Grow P G H P1 (upd G1 p o) H1 where
  fz := a.fz
  iv := a.iv
  n := a.n
  g := fun x u e => by
    have e1 := a.g x u e
    rw [upd_ne (ne_of_none e1 hg)]; exact e1
  h := a.h
  dom := a.dom
  fresh := fun x u e => by
    obtain ⟨q1, q2, q3⟩ := a.fresh x u e
    exact ⟨q1, q2, by rw [upd_ne (ne_of_none e h)]; exact q3⟩
theorem Good.frz {p : Addr} {o : HO} (g : Good κ P G H) (hg : G p = none) (hi : P.iv p = none) (hp : H p = some o) : Good κ P (upd G p o) H where
  pg := fun a u e => by
    have e1 := g.pg a u e
    rw [upd_ne (ne_of_none e1 hg)]; exact e1
  gh := fun a u e => by
    by_cases hne : a = p
    · subst hne; rw [upd_same] at e; cases e; exact .inl hp
    · rw [upd_ne hne] at e; exact g.gh a u e
  gi := fun a t e => by
    obtain ⟨q1, u, q2, q3⟩ := g.gi a t e
    have hne : a ≠ p := fun z => by subst z; rw [hi] at e; cases e
    exact ⟨by rw [upd_ne hne]; exact q1, u, q2, q3⟩
/-- a dict is locked, and let again -/
theorem Good.lock {a : Addr} {u : HO} {od : Obj} (g : Good κ P G H) (hg : G a = some u) (hd : isDk u = true) : Good κ P G (upd H a (.frz od u)) where
  pg := g.pg
  gh := fun b o e => by
    by_cases hb : b = a
    · subst hb
      rw [hg] at e; cases e
      exact .inr ⟨hd, od, upd_same⟩
    · exact (g.gh b o e).of (upd_ne hb)
  gi := fun b t e => by
    obtain ⟨q1, o, q2, q3⟩ := g.gi b t e
    have hb : b ≠ a := fun z => by subst z; rw [q1] at hg; cases hg
    exact ⟨q1, o, by rw [upd_ne hb]; exact q2, q3⟩
theorem Good.unlock {a : Addr} {u : HO} (g : Good κ P G H) (hg : G a = some u) : Good κ P G (upd H a u) where
  pg := g.pg
  gh := fun b o e => by
    by_cases hb : b = a
    · subst hb
      rw [hg] at e; cases e
      exact .inl upd_same
    · exact (g.gh b o e).of (upd_ne hb)
  gi := fun b t e => by
    obtain ⟨q1, o, q2, q3⟩ := g.gi b t e
    have hb : b ≠ a := fun z => by subst z; rw [q1] at hg; cases hg
    exact ⟨q1, o, by rw [upd_ne hb]; exact q2, q3⟩
theorem Grow.unlock {a : Addr} {u : HO} {od : Obj} (h : H a = some u) (gr : Grow P G (upd H a (.frz od u)) P1 G1 H1) : Grow P G H P1 G1 (upd H1 a u) where
  fz := gr.fz
  iv := gr.iv
  n := gr.n
  g := gr.g
  h := fun b o e n => by
    by_cases hb : b = a
    · subst hb
      rw [h] at e; cases e; exact upd_same
    · rw [upd_ne hb]; exact gr.h b o (by rw [upd_ne hb]; exact e) n
  dom := fun b o e => by
    by_cases hb : b = a
    · subst hb; exact ⟨_, upd_same⟩
    · rw [upd_ne hb]; exact gr.dom b o (by rw [upd_ne hb]; exact e)
  fresh := fun b o e => by
    by_cases hb : b = a
    · subst hb; exact gr.fresh b _ upd_same
    · exact gr.fresh b o (by rw [upd_ne hb]; exact e)
theorem rep_frz {v : V} {d : D} {iv : IV} {p : Addr} {o : HO} (hg : G p = none) (r : Rep κ G iv v d) : Rep κ (upd G p o) iv v d := r.mono (fun a u e => by rw [upd_ne (ne_of_none e hg)]; exact e) fun _ _ h => h
theorem reps_frz {v : List V} {d : List D} {iv : IV} {p : Addr} {o : HO} (hg : G p = none) (r : Reps κ G iv v d) : Reps κ (upd G p o) iv v d := r.mono (fun a u e => by rw [upd_ne (ne_of_none e hg)]; exact e) fun _ _ h => h
end

/-! ### judgements -/
abbrev DEnv := List (Option D)
abbrev FE := DEnv → Nat → (D → Nat → Prop) → Prop
abbrev FA := DEnv → Nat → (List D → Nat → Prop) → Prop
abbrev FT := DEnv → Nat → (Bool → Nat → Prop) → Prop
structure EnvR (κ : Kit) (G : Hp) (iv : IV) (σ : L2.St) (env : DEnv) : Prop where
  len : env.length = σ.length
  get : ∀ (i : Nat) (d : D), env[i]? = some (some d) → ∃ v : V, σ[i]? = some (some v) ∧ Rep κ G iv v d
/-- what follows a value; a new list; arguments; a test -/
abbrev Lk (κ : Kit) (P : Wd) (G H : Hp) (Q : D → Nat → Prop) (R : VK) : Prop := ∀ v P' G' H' d, Grow P G H P' G' H' → Good κ P' G' H' → Rep κ G' P'.iv v d → Q d P'.n → R v H'
abbrev LkO (κ : Kit) (P : Wd) (G H : Hp) (Q : List D → Nat → Prop) (R : VK) : Prop := ∀ a P' G' H' vs xs, Grow P G H P' G' H' → Good κ P' G' H' → H a = none → G' a = none → P'.iv a = none → H' a = some (.lst vs) → vs.length ≤ sizeLine → Reps κ G' P'.iv vs xs → Q xs P'.n → R (.ref a) H'
abbrev LkA (κ : Kit) (P : Wd) (G H : Hp) (Q : List D → Nat → Prop) (R : List V → Hp → Prop) : Prop := ∀ vs P' G' H' ds, Grow P G H P' G' H' → Good κ P' G' H' → Reps κ G' P'.iv vs ds → Q ds P'.n → R vs H'
abbrev LkT (κ : Kit) (P : Wd) (G H : Hp) (Q : Bool → Nat → Prop) (R : Bool → Hp → Prop) : Prop := ∀ b P' G' H', Grow P G H P' G' H' → Good κ P' G' H' → Q b P'.n → R b H'
abbrev RdE (κ : Kit) (f : FE) (t : TE) : Prop := ∀ (P : Wd) (G H : Hp) (σ : L2.St) (env : DEnv) (Q : D → Nat → Prop) (R : VK), Good κ P G H → EnvR κ G P.iv σ env → f env P.n Q → Lk κ P G H Q R → t σ H R
abbrev RdO (κ : Kit) (f : FA) (t : TE) : Prop := ∀ (P : Wd) (G H : Hp) (σ : L2.St) (env : DEnv) (Q : List D → Nat → Prop) (R : VK), Good κ P G H → EnvR κ G P.iv σ env → f env P.n Q → LkO κ P G H Q R → t σ H R
abbrev RdA (κ : Kit) (f : FA) (t : TA) : Prop := ∀ (P : Wd) (G H : Hp) (σ : L2.St) (env : DEnv) (Q : List D → Nat → Prop) (R : List V → Hp → Prop), Good κ P G H → EnvR κ G P.iv σ env → f env P.n Q → LkA κ P G H Q R → t σ H R
abbrev RdT (κ : Kit) (f : FT) (t : TT) : Prop := ∀ (P : Wd) (G H : Hp) (σ : L2.St) (env : DEnv) (Q : Bool → Nat → Prop) (R : Bool → Hp → Prop), Good κ P G H → EnvR κ G P.iv σ env → f env P.n Q → LkT κ P G H Q R → t σ H R
/-- an expression reads as f; a new list, not yet frozen; arguments; a test -/
def DE (κ : Kit) (X : Cx) (e : Expr) (f : FE) : Prop := ∃ t, PE X e t ∧ RdE κ f t
def DO (κ : Kit) (X : Cx) (e : Expr) (f : FA) : Prop := ∃ t, PE X e t ∧ RdO κ f t
def DA (κ : Kit) (X : Cx) (es : List Expr) (f : FA) : Prop := ∃ t, PA X es t ∧ RdA κ f t
def DT (κ : Kit) (X : Cx) (e : Expr) (f : FT) : Prop := ∃ t, PT X e t ∧ RdT κ f t

section
variable {κ : Kit} {X : Cx} {a b c e : Expr} {es : List Expr} {fa fb fc f : FE} {pos : Pos}
theorem EnvR.grow {P P1 : Wd} {G G1 H H1 : Hp} {σ : L2.St} {env : DEnv} (ev : EnvR κ G P.iv σ env) (g : Grow P G H P1 G1 H1) : EnvR κ G1 P1.iv σ env :=
  ⟨ev.len, fun i d h => by obtain ⟨v, h1, h2⟩ := ev.get i d h; exact ⟨v, h1, g.rep h2⟩⟩
theorem EnvR.set {G : Hp} {iv : IV} {σ : L2.St} {env : DEnv} {i : Nat} {v : V} {d : D} (ev : EnvR κ G iv σ env) (r : Rep κ G iv v d) : EnvR κ G iv (σ.set i (some v)) (env.set i (some d)) :=
  ⟨by rw [List.length_set, List.length_set, ev.len], fun j u h => by
    by_cases hij : i = j
    · subst hij
      rw [List.getElem?_set] at h
      simp only [if_true] at h
      split at h
      · cases h
        exact ⟨v, by rw [List.getElem?_set]; simp only [if_true]; rw [if_pos (by rw [← ev.len]; assumption)], r⟩
      · cases h
    · rw [List.getElem?_set_ne hij] at h ⊢
      exact ev.get j u h⟩
theorem EnvR.setN {G : Hp} {iv : IV} {σ : L2.St} {env : DEnv} {i : Nat} (ev : EnvR κ G iv σ env) : EnvR κ G iv (σ.set i none) (env.set i none) :=
  ⟨by rw [List.length_set, List.length_set, ev.len], fun j u h => by
    by_cases hij : i = j
    · subst hij
      rw [List.getElem?_set] at h
      simp only [if_true] at h
      split at h <;> cases h
    · rw [List.getElem?_set_ne hij] at h ⊢
      exact ev.get j u h⟩
/-- a new list is frozen -/
@[simp] def fFrz (f : FA) : FE := fun env n Q => f env n fun xs m => Q (.lst xs) m
theorem DO.fr {fo : FA} (h : DO κ X e fo) : DE κ X e (fFrz fo) := by
  obtain ⟨t, p, q⟩ := h
  refine ⟨t, p, fun P G H σ env Q R g ev hf hR => q P G H σ env _ R g ev hf fun a P' G' H' vs xs gr g' ha hg hi hh hz r hq => ?_⟩
  exact hR (.ref a) P' (upd G' a (.lst vs)) H' (.lst xs) (gr.frz ha hg) (g'.frz hg hi hh) (.lst upd_same hz (reps_frz hg r)) hq

@[simp] def fVar (i : Nat) : FE := fun env n Q => ∃ d, env[i]? = some (some d) ∧ Q d n
theorem de_var {i : Nat} {x : Str} (hN : X.N[i]? = some x) (hv : Vis X.env.scope x) (hd : (x == ("__debug__" : Str)) = false := by decide) (hcd : (x == ("__classdict__" : Str)) = false := by decide) : DE κ X (.Name x pos) (fVar i) :=
  ⟨_, pe_var hN hv hd hcd, fun P G H σ env Q R g ev ⟨d, h1, h2⟩ hR => by
    obtain ⟨v, q1, q2⟩ := ev.get i d h1
    exact ⟨v, q1, hR v P G H d .refl g q2 h2⟩⟩
@[simp] def fC (d : D) : FE := fun _ n Q => Q d n
theorem de_int {i j} : DE κ X (.Constant (.int i) j pos) (fC (.int i)) := ⟨_, pe_int, fun P G H σ env Q R g ev h hR => hR _ P G H _ .refl g .int h⟩
theorem de_bl {i j} : DE κ X (.Constant (.bool i) j pos) (fC (.bl i)) := ⟨_, pe_bl, fun P G H σ env Q R g ev h hR => hR _ P G H _ .refl g .bl h⟩
theorem de_non {j} : DE κ X (.Constant .none j pos) (fC .non) := ⟨_, pe_non, fun P G H σ env Q R g ev h hR => hR _ P G H _ .refl g .non h⟩
theorem de_str {x : Str} {j} (s : List Nat) (hs : x = ⟨s.toArray⟩) (hl : OkS s) : DE κ X (.Constant (.str x) j pos) (fC (.str s)) :=
  ⟨_, pe_str, fun P G H σ env Q R g ev h hR => hR _ P G H _ .refl g (by rw [hs]; exact .str hl) h⟩

/-- two operands, an operation by values and its data -/
def LiftR (κ : Kit) (r : R2) (f : D → D → Nat → (D → Nat → Prop) → Prop) : Prop := ∀ (P : Wd) (G H : Hp) (x y : V) (dx dy : D) (Q : D → Nat → Prop) (R : VK), Good κ P G H → Rep κ G P.iv x dx → Rep κ G P.iv y dy → f dx dy P.n Q → Lk κ P G H Q R → r x y H R
def LiftRO (κ : Kit) (r : R2) (f : D → D → Nat → (List D → Nat → Prop) → Prop) : Prop := ∀ (P : Wd) (G H : Hp) (x y : V) (dx dy : D) (Q : List D → Nat → Prop) (R : VK), Good κ P G H → Rep κ G P.iv x dx → Rep κ G P.iv y dy → f dx dy P.n Q → LkO κ P G H Q R → r x y H R
theorem Grow.back {P P1 : Wd} {G H G1 H1 : Hp} {p : Addr} (gr : Grow P G H P1 G1 H1) (h : H1 p = none) : H p = none := by
  cases e : H p with
  | none => rfl
  | some o =>
    obtain ⟨o', e'⟩ := gr.dom p o e
    rw [e'] at h; cases h
theorem Lk.grow {P P1 : Wd} {G H G1 H1 : Hp} {Q : D → Nat → Prop} {R : VK} (gr : Grow P G H P1 G1 H1) (h : Lk κ P G H Q R) : Lk κ P1 G1 H1 Q R := fun v P' G' H' d gr' g' r q => h v P' G' H' d (gr.trans gr') g' r q
theorem LkO.grow {P P1 : Wd} {G H G1 H1 : Hp} {Q : List D → Nat → Prop} {R : VK} (gr : Grow P G H P1 G1 H1) (h : LkO κ P G H Q R) : LkO κ P1 G1 H1 Q R := fun a P' G' H' vs xs gr' g' ha hg hi hh hz r q => h a P' G' H' vs xs (gr.trans gr') g' (gr.back ha) hg hi hh hz r q
@[simp] def f2 (f : D → D → Nat → (D → Nat → Prop) → Prop) (fa fb : FE) : FE := fun env n Q => fa env n fun x n1 => fb env n1 fun y n2 => f x y n2 Q
@[simp] def f2O (f : D → D → Nat → (List D → Nat → Prop) → Prop) (fa fb : FE) : FA := fun env n Q => fa env n fun x n1 => fb env n1 fun y n2 => f x y n2 Q
theorem op_lift {r : R2} {f : D → D → Nat → (D → Nat → Prop) → Prop} {ta tb : TE} (hl : LiftR κ r f) (ha : RdE κ fa ta) (hb : RdE κ fb tb) : RdE κ (f2 f fa fb) (tOp r ta tb) := fun P G H σ env Q R g ev hf hR =>
  ha P G H σ env _ _ g ev hf fun x P1 G1 H1 dx gr1 g1 rx hf1 => hb P1 G1 H1 σ env _ _ g1 (ev.grow gr1) hf1 fun y P2 G2 H2 dy gr2 g2 ry hf2 =>
    hl P2 G2 H2 x y dx dy Q R g2 (gr2.rep rx) ry hf2 (hR.grow (gr1.trans gr2))
theorem op_liftO {r : R2} {f : D → D → Nat → (List D → Nat → Prop) → Prop} {ta tb : TE} (hl : LiftRO κ r f) (ha : RdE κ fa ta) (hb : RdE κ fb tb) : RdO κ (f2O f fa fb) (tOp r ta tb) := fun P G H σ env Q R g ev hf hR =>
  ha P G H σ env _ _ g ev hf fun x P1 G1 H1 dx gr1 g1 rx hf1 => hb P1 G1 H1 σ env _ _ g1 (ev.grow gr1) hf1 fun y P2 G2 H2 dy gr2 g2 ry hf2 =>
    hl P2 G2 H2 x y dx dy Q R g2 (gr2.rep rx) ry hf2 (hR.grow (gr1.trans gr2))
theorem de_op {op : Operator} {r : R2} {f : D → D → Nat → (D → Nat → Prop) → Prop} (hl : LiftR κ r f) (ho : OpR X (binaryOp op) r) (ha : DE κ X a fa) (hb : DE κ X b fb) : DE κ X (.BinOp a op b pos) (f2 f fa fb) := by
  obtain ⟨ta, pa, qa⟩ := ha
  obtain ⟨tb, pb, qb⟩ := hb
  exact ⟨_, pe_op ho pa pb, op_lift hl qa qb⟩
theorem de_cmp {op : CmpOp} {r : R2} {f : D → D → Nat → (D → Nat → Prop) → Prop} (hl : LiftR κ r f) (ho : OpR X (compareOp op) r) (ha : DE κ X a fa) (hb : DE κ X b fb) (hm : behindInMarks op b = false) : DE κ X (.Compare a [op] [b] pos) (f2 f fa fb) := by
  obtain ⟨ta, pa, qa⟩ := ha
  obtain ⟨tb, pb, qb⟩ := hb
  exact ⟨_, pe_cmpR ho pa pb hm, op_lift hl qa qb⟩
theorem do_op {op : Operator} {r : R2} {f : D → D → Nat → (List D → Nat → Prop) → Prop} (hl : LiftRO κ r f) (ho : OpR X (binaryOp op) r) (ha : DE κ X a fa) (hb : DE κ X b fb) : DO κ X (.BinOp a op b pos) (f2O f fa fb) := by
  obtain ⟨ta, pa, qa⟩ := ha
  obtain ⟨tb, pb, qb⟩ := hb
  exact ⟨_, pe_op ho pa pb, op_liftO hl qa qb⟩
end
end DL

/-! ## DL2 -/
/-! DL2: operations -/
namespace DL
open PySem PySem.Spec PyProof.Rows L2
section
variable {κ : Kit} {X : Cx} {a b c e : Expr} {es : List Expr} {fa fb fc f : FE} {far : FA} {pos : Pos}

/-! ### arguments -/
@[simp] def aNil : FA := fun _ n Q => Q [] n
@[simp] def aCons (f : FE) (r : FA) : FA := fun env n Q => f env n fun x n1 => r env n1 fun xs n2 => Q (x :: xs) n2
theorem da_nil : DA κ X [] aNil := ⟨_, pa_nil, fun P G H σ env Q R g ev h hR => hR [] P G H [] .refl g .nil h⟩
theorem da_cons (ha : DE κ X e f) (hr : DA κ X es far) (hs : starEach (e :: es) X.env = (false, eval e X.env) :: starEach es X.env := by rfl) : DA κ X (e :: es) (aCons f far) := by
  obtain ⟨ta, pa, qa⟩ := ha
  obtain ⟨tb, pb, qb⟩ := hr
  refine ⟨_, pa_cons pa pb hs, fun P G H σ env Q R g ev hf hR => ?_⟩
  exact qa P G H σ env _ _ g ev hf fun x P1 G1 H1 dx gr1 g1 rx hf1 => qb P1 G1 H1 σ env _ _ g1 (ev.grow gr1) hf1 fun xs P2 G2 H2 ds gr2 g2 rs hq =>
    hR _ P2 G2 H2 _ (gr1.trans gr2) g2 (.cons (gr2.rep rx) rs) hq

/-! ### displays -/
@[simp] def fTup (fa : FA) : FE := fun env n Q => fa env n fun xs m => xs.length ≤ sizeLine ∧ Q (.tup xs) m
theorem de_tup {x1} (h : DA κ X es far) : DE κ X (.Tuple es x1 pos) (fTup far) := by
  obtain ⟨t, p, q⟩ := h
  refine ⟨_, pe_tup p, fun P G H σ env Q R g ev hf hR => q P G H σ env _ _ g ev hf fun vs P1 G1 H1 ds gr g1 r hq => ⟨by rw [r.length]; exact hq.1, fun a ha => ?_⟩⟩
  have hg := g1.gnone ha
  exact hR _ P1 (upd G1 a (.tup vs)) _ (.tup ds) ((gr.put (gr.back ha)).frz (gr.back ha) hg) ((g1.new ha).frz hg (g1.inone ha) upd_same) (.tup upd_same (by rw [r.length]; exact hq.1) (reps_frz hg r)) hq.2
@[simp] def oLst (fa : FA) : FA := fun env n Q => fa env n fun xs m => xs.length ≤ sizeLine ∧ Q xs m
theorem do_lst (h : DA κ X es far) : DO κ X (.List es pos) (oLst far) := by
  obtain ⟨t, p, q⟩ := h
  refine ⟨_, pe_lst p, fun P G H σ env Q R g ev hf hR => q P G H σ env _ _ g ev hf fun vs P1 G1 H1 ds gr g1 r hq => ⟨by rw [r.length]; exact hq.1, fun a ha => ?_⟩⟩
  exact hR a P1 G1 _ vs ds (gr.put (gr.back ha)) (g1.new ha) (gr.back ha) (g1.gnone ha) (g1.inone ha) upd_same (by rw [r.length]; exact hq.1) r hq.2

/-! ### one operand, calls by values -/
def LiftU (κ : Kit) (r : V → Hp → VK → Prop) (f : D → Nat → (D → Nat → Prop) → Prop) : Prop := ∀ (P : Wd) (G H : Hp) (x : V) (dx : D) (Q : D → Nat → Prop) (R : VK), Good κ P G H → Rep κ G P.iv x dx → f dx P.n Q → Lk κ P G H Q R → r x H R
def LiftC (κ : Kit) (r : List V → Hp → VK → Prop) (f : List D → Nat → (D → Nat → Prop) → Prop) : Prop := ∀ (P : Wd) (G H : Hp) (xs : List V) (ds : List D) (Q : D → Nat → Prop) (R : VK), Good κ P G H → Reps κ G P.iv xs ds → f ds P.n Q → Lk κ P G H Q R → r xs H R
def LiftCO (κ : Kit) (r : List V → Hp → VK → Prop) (f : List D → Nat → (List D → Nat → Prop) → Prop) : Prop := ∀ (P : Wd) (G H : Hp) (xs : List V) (ds : List D) (Q : List D → Nat → Prop) (R : VK), Good κ P G H → Reps κ G P.iv xs ds → f ds P.n Q → LkO κ P G H Q R → r xs H R
@[simp] def f1 (f : D → Nat → (D → Nat → Prop) → Prop) (fa : FE) : FE := fun env n Q => fa env n fun x n1 => f x n1 Q
@[simp] def fCl (f : List D → Nat → (D → Nat → Prop) → Prop) (fa : FA) : FE := fun env n Q => fa env n fun x n1 => f x n1 Q
@[simp] def oCl (f : List D → Nat → (List D → Nat → Prop) → Prop) (fa : FA) : FA := fun env n Q => fa env n fun x n1 => f x n1 Q
theorem de_un {op : UnaryOp} {r : V → Hp → VK → Prop} {g : D → Nat → (D → Nat → Prop) → Prop} (hl : LiftU κ r g) (ho : UnR X (unaryOp op) r) (ha : DE κ X a fa) : DE κ X (.UnaryOp op a pos) (f1 g fa) := by
  obtain ⟨t, p, q⟩ := ha
  exact ⟨_, pe_un ho p, fun P G H σ env Q R g ev hf hR => q P G H σ env _ _ g ev hf fun v P1 G1 H1 d gr g1 r hq => hl P1 G1 H1 v d Q R g1 r hq (hR.grow gr)⟩
theorem de_callB {id : String} {x : Str} {p : Pos} {r : List V → Hp → VK → Prop} {g : List D → Nat → (D → Nat → Prop) → Prop} (hl : LiftC κ r g) (hc : CallR X (.builtin id) r) (hg : Gl X x) (hm : X.mg x = none) (hv : bootBuiltins x = some (.builtin id)) (ha : DA κ X (e :: es) far)
    (hn : x ≠ "__name__" := by decide) (hdb : (x == ("__debug__" : Str)) = false := by decide) (he : starEach (e :: es) X.env = (false, eval e X.env) :: starEach es X.env := by rfl) (hpl : (backTo pos (starEach es X.env)).any (·.1) = false := by rfl) : DE κ X (.Call (.Name x p) (e :: es) [] pos) (fCl g far) := by
  obtain ⟨t, pa, q⟩ := ha
  exact ⟨_, pe_callB hc hg hm hv pa hn hdb he hpl, fun P G H σ env Q R g ev hf hR => q P G H σ env _ _ g ev hf fun v P1 G1 H1 d gr g1 r hq => hl P1 G1 H1 v d Q R g1 r hq (hR.grow gr)⟩
theorem do_callB {id : String} {x : Str} {p : Pos} {r : List V → Hp → VK → Prop} {g : List D → Nat → (List D → Nat → Prop) → Prop} (hl : LiftCO κ r g) (hc : CallR X (.builtin id) r) (hg : Gl X x) (hm : X.mg x = none) (hv : bootBuiltins x = some (.builtin id)) (ha : DA κ X (e :: es) far)
    (hn : x ≠ "__name__" := by decide) (hdb : (x == ("__debug__" : Str)) = false := by decide) (he : starEach (e :: es) X.env = (false, eval e X.env) :: starEach es X.env := by rfl) (hpl : (backTo pos (starEach es X.env)).any (·.1) = false := by rfl) : DO κ X (.Call (.Name x p) (e :: es) [] pos) (oCl g far) := by
  obtain ⟨t, pa, q⟩ := ha
  exact ⟨_, pe_callB hc hg hm hv pa hn hdb he hpl, fun P G H σ env Q R g ev hf hR => q P G H σ env _ _ g ev hf fun v P1 G1 H1 d gr g1 r hq => hl P1 G1 H1 v d Q R g1 r hq (hR.grow gr)⟩
theorem de_callTy {T : String} {x : Str} {p : Pos} {r : List V → Hp → VK → Prop} {g : List D → Nat → (D → Nat → Prop) → Prop} (hl : LiftC κ r g) (hc : CallR X (.type T) r) (hg : Gl X x) (hm : X.mg x = none) (hv : bootBuiltins x = some (.type T)) (ha : DA κ X (e :: es) far)
    (hn : x ≠ "__name__" := by decide) (hdb : (x == ("__debug__" : Str)) = false := by decide) (he : starEach (e :: es) X.env = (false, eval e X.env) :: starEach es X.env := by rfl) (hpl : (backTo pos (starEach es X.env)).any (·.1) = false := by rfl) : DE κ X (.Call (.Name x p) (e :: es) [] pos) (fCl g far) := by
  obtain ⟨t, pa, q⟩ := ha
  exact ⟨_, pe_callTy hc hg hm hv pa hn hdb he hpl, fun P G H σ env Q R g ev hf hR => q P G H σ env _ _ g ev hf fun v P1 G1 H1 d gr g1 r hq => hl P1 G1 H1 v d Q R g1 r hq (hR.grow gr)⟩
theorem do_callTy {T : String} {x : Str} {p : Pos} {r : List V → Hp → VK → Prop} {g : List D → Nat → (List D → Nat → Prop) → Prop} (hl : LiftCO κ r g) (hc : CallR X (.type T) r) (hg : Gl X x) (hm : X.mg x = none) (hv : bootBuiltins x = some (.type T)) (ha : DA κ X (e :: es) far)
    (hn : x ≠ "__name__" := by decide) (hdb : (x == ("__debug__" : Str)) = false := by decide) (he : starEach (e :: es) X.env = (false, eval e X.env) :: starEach es X.env := by rfl) (hpl : (backTo pos (starEach es X.env)).any (·.1) = false := by rfl) : DO κ X (.Call (.Name x p) (e :: es) [] pos) (oCl g far) := by
  obtain ⟨t, pa, q⟩ := ha
  exact ⟨_, pe_callTy hc hg hm hv pa hn hdb he hpl, fun P G H σ env Q R g ev hf hR => q P G H σ env _ _ g ev hf fun v P1 G1 H1 d gr g1 r hq => hl P1 G1 H1 v d Q R g1 r hq (hR.grow gr)⟩

/-! ### either of two rules -/
theorem OpR.or {op : Value → Value → Sem Value} {r r' : R2} (h : OpR X op r) (h' : OpR X op r') : OpR X op (fun x y H Q => r x y H Q ∨ r' x y H Q) := by
  intro pins s σ H x y v u Q I rx ry q
  rcases q with q | q
  · exact h pins s σ H x y v u Q I rx ry q
  · exact h' pins s σ H x y v u Q I rx ry q
theorem CallR.or {f : Value} {r r' : List V → Hp → VK → Prop} (h : CallR X f r) (h' : CallR X f r') : CallR X f (fun xs H Q => r xs H Q ∨ r' xs H Q) := by
  intro pins s σ H xs us Q I rx q
  rcases q with q | q
  · exact h pins s σ H xs us Q I rx q
  · exact h' pins s σ H xs us Q I rx q

/-- a comparison by values and its data -/
def CR (κ : Kit) (X : Cx) (op : CmpOp) (φ : D → D → Nat → (D → Nat → Prop) → Prop) : Prop := ∃ r, LiftR κ r φ ∧ OpR X (compareOp op) r
theorem CR.de {op : CmpOp} {φ : D → D → Nat → (D → Nat → Prop) → Prop} (c : CR κ X op φ) (ha : DE κ X a fa) (hb : DE κ X b fb) (hm : behindInMarks op b = false) : DE κ X (.Compare a [op] [b] pos) (f2 φ fa fb) := by
  obtain ⟨r, h1, h2⟩ := c
  exact de_cmp h1 h2 ha hb hm
/-- it has to be True or False -/
def gB (d : D) (m : Nat) (Q : Bool → Nat → Prop) : Prop := ∃ b, d = .bl b ∧ Q b m
@[simp] theorem gB_bl {b : Bool} {m : Nat} {Q : Bool → Nat → Prop} : gB (.bl b) m Q = Q b m := by
  refine propext ⟨?_, fun h => ⟨b, rfl, h⟩⟩
  rintro ⟨c, e, h⟩
  cases e
  exact h
@[simp] def tVal (f : FE) : FT := fun env n Q => f env n fun d m => gB d m Q
theorem rep_bl' {G : Hp} {iv : IV} {v : V} {k : Bool} (r : Rep κ G iv v (.bl k)) : v = .bl k := by cases r; rfl
theorem CR.dt {op : CmpOp} {φ : D → D → Nat → (D → Nat → Prop) → Prop} (c : CR κ X op φ) (ha : DE κ X a fa) (hb : DE κ X b fb) (hm : behindInMarks op b = false) : DT κ X (.Compare a [op] [b] pos) (tVal (f2 φ fa fb)) := by
  obtain ⟨r, h1, h2⟩ := c
  obtain ⟨ta, pa, qa⟩ := ha
  obtain ⟨tb, pb, qb⟩ := hb
  refine ⟨_, pt_cmpR h2 pa pb hm, fun P G H σ env Q R g ev hf hR => op_lift h1 qa qb P G H σ env _ _ g ev hf fun v P' G' H' d gr g' rv hq => ?_⟩
  obtain ⟨b, e, hq⟩ := hq
  subst e
  exact ⟨b, rep_bl' rv, hR b P' G' H' gr g' hq⟩
/-! ### whole numbers and texts -/
theorem str_app (s t : List Nat) : ((⟨s.toArray⟩ : Str) ++ ⟨t.toArray⟩) = ⟨(s ++ t).toArray⟩ := by
  show (⟨s.toArray ++ t.toArray⟩ : Str) = _
  simp
theorem str_len (s : List Nat) : (⟨s.toArray⟩ : Str).length = s.length := by show s.toArray.size = s.length; simp

/-- a + b: ints, texts -/
def gAdd (x y : D) (n : Nat) (Q : D → Nat → Prop) : Prop := match x, y with
  | .int i, .int j => Q (.int (i + j)) n
  | .str s, .str t => s.length + t.length ≤ sizeLine ∧ Q (.str (s ++ t)) n
  | _, _ => False
theorem de_add (ha : DE κ X a fa) (hb : DE κ X b fb) : DE κ X (.BinOp a .Add b pos) (f2 gAdd fa fb) := by
  refine de_op (r := fun x y H Q => (rI0 fun i j => .int (i + j)) x y H Q ∨ (∃ i j, x = .str i ∧ y = .str j ∧ i.length + j.length ≤ sizeLine ∧ Q (.str (i ++ j)) H)) ?_ (OpR.or op_add op_add_str) ha hb
  intro P G H x y dx dy Q R g rx ry hf hR
  cases rx <;> cases ry <;> try (exact False.elim hf)
  · exact .inl ⟨_, _, rfl, rfl, hR _ P G H _ .refl g .int hf⟩
  · rename_i s hs t ht
    refine .inr ⟨_, _, rfl, rfl, ?_, ?_⟩
    · rw [str_len, str_len]; exact hf.1
    · rw [str_app]; exact hR _ P G H _ .refl g (.str (hs.app ht hf.1)) hf.2
def gSub (x y : D) (n : Nat) (Q : D → Nat → Prop) : Prop := match x, y with
  | .int i, .int j => Q (.int (i - j)) n
  | _, _ => False
theorem de_sub (ha : DE κ X a fa) (hb : DE κ X b fb) : DE κ X (.BinOp a .Sub b pos) (f2 gSub fa fb) := by
  refine de_op ?_ op_sub ha hb
  intro P G H x y dx dy Q R g rx ry hf hR
  cases rx <;> cases ry <;> try (exact False.elim hf)
  exact ⟨_, _, rfl, rfl, hR _ P G H _ .refl g .int hf⟩
/-- a + b of lists: a new list -/
def oAdd (x y : D) (n : Nat) (Q : List D → Nat → Prop) : Prop := match x, y with
  | .lst xs, .lst ys => xs.length + ys.length ≤ sizeLine ∧ Q (xs ++ ys) n
  | _, _ => False
theorem do_add (ha : DE κ X a fa) (hb : DE κ X b fb) : DO κ X (.BinOp a .Add b pos) (f2O oAdd fa fb) := by
  refine do_op ?_ op_cat ha hb
  intro P G H x y dx dy Q R g rx ry hf hR
  cases rx <;> cases ry <;> try (exact False.elim hf)
  rename_i a1 vs1 xs1 h1 z1 r1 a2 vs2 xs2 h2 z2 r2
  have hz : vs1.length + vs2.length ≤ sizeLine := by rw [r1.length, r2.length]; exact hf.1
  exact ⟨_, _, _, _, rfl, rfl, g.gx h1 rfl, g.gx h2 rfl, hz, fun p hp => hR p P G _ _ _ (Grow.new hp) (g.new hp) hp (g.gnone hp) (g.inone hp) upd_same (by rw [List.length_append]; exact hz) (r1.append r2) hf.2⟩
end
end DL

/-! ## DL3 -/
/-! DL3: more operations -/
namespace DL
open PySem PySem.Spec PyProof.Rows L2
/-- when a product is made -/
def MulOk (i j : Int) : Prop := (i.natAbs < 2 ^ 64 ∨ j.natAbs < 2 ^ 64) ∨ (i.natAbs.log2 + j.natAbs.log2 < 1000000)
theorem MulOk.left {i j : Int} (h : i.natAbs < 2 ^ 64) : MulOk i j := .inl (.inl h)
theorem MulOk.right {i j : Int} (h : j.natAbs < 2 ^ 64) : MulOk i j := .inl (.inr h)
theorem MulOk.ok {i j : Int} (h : MulOk i j) : IntMulOk i j := by
  rcases h with (h | h) | h
  · exact (show CMul i j from .inl (by omega)).ok
  · exact (show CMul i j from .inr (by omega)).ok
  · exact CMulW.ok h
def DivOk (j : Int) : Prop := 0 < j ∧ j.natAbs.log2 < 9000
section
variable {κ : Kit} {X : Cx} {a b c e : Expr} {es : List Expr} {fa fb fc f : FE} {far : FA} {pos : Pos}
theorem op_mulA : OpR X (binaryOp .Mult) (rI MulOk fun i j => .int (i * j)) := opI fun _ _ _ _ _ _ _ hc q => mul_int q hc.ok
theorem foldl_rep (s : List Nat) (n : Nat) : ∀ a : Array Nat, (List.replicate n s.toArray).foldl (· ++ ·) a = (a.toList ++ (List.replicate n s).flatten).toArray := by
  induction n with
  | zero => intro a; simp
  | succ n ih =>
    intro a
    rw [List.replicate_succ, List.foldl_cons, ih, List.replicate_succ, List.flatten_cons]
    simp
theorem op_mulS : OpR X (binaryOp .Mult) (fun x y H Q => ∃ s k, x = .str s ∧ y = .int k ∧ k < 2 ^ 62 ∧ -(2 ^ 62) < k ∧ s.length * k.toNat ≤ sizeLine ∧ Q (.str ⟨(List.replicate k.toNat s.cps.toList).flatten.toArray⟩) H) := by
  intro pins s σ H x y v u Q I rx ry h
  obtain ⟨z, k, rfl, rfl, h1, h2, h3, q⟩ := h
  obtain ⟨t, rfl⟩ := rx
  obtain ⟨t', rfl⟩ := ry
  have hl : sizeLine = 16777216 := sizeLine_eq
  refine P.mul_str ?_ ?_ ?_ ?_
  · have e1 : ¬ k < -(2 ^ 63 : Int) := by omega
    have e2 : ¬ k ≥ 2 ^ 63 := by omega
    rw [decide_eq_false e1, decide_eq_false e2]; rfl
  · intro e1 _ e2
    have e3 : (z.length : Int) * k ≤ 16777216 := by
      have h4 : z.length * k.toNat ≤ 16777216 := Nat.le_trans h3 (Nat.le_of_eq hl)
      have h5 : ((z.length * k.toNat : Nat) : Int) ≤ ((16777216 : Nat) : Int) := Int.ofNat_le.mpr h4
      rw [Int.natCast_mul, Int.toNat_of_nonneg (by omega)] at h5
      exact h5
    have e4 : ((2 ^ 63 - 1) / k + 1) * k ≤ (z.length : Int) * k := Int.mul_le_mul_of_nonneg_right (by omega) (by omega)
    have e5 : (2 ^ 63 - 1 : Int) < ((2 ^ 63 - 1) / k + 1) * k := Int.lt_ediv_add_one_mul_self _ (by omega)
    omega
  · intro _ _
    unfold Builtin.Str.tooLong
    simp only [decide_eq_false_iff_not, Nat.not_lt, gt_iff_lt]
    exact h3
  · have key : ∀ s' : Shared, Inv X pins σ H s' → ∀ t : Tok, EP X pins σ Q (.str ⟨(List.replicate k.toNat z.cps.toList).flatten.toArray⟩ t) s' := fun s' I' t => ⟨V.str ⟨(List.replicate k.toNat z.cps.toList).flatten.toArray⟩, H, I', ⟨_, rfl⟩, q⟩
    by_cases hk : k < 1
    · rw [if_pos hk]
      have e0 : k.toNat = 0 := by omega
      have e1 : (⟨(List.replicate k.toNat z.cps.toList).flatten.toArray⟩ : Str) = Str.empty := by rw [e0]; rfl
      exact ⟨by decide, by have := key _ (I.tok (s.toks + 1)) s.toks; rw [e1] at this; exact this⟩
    · rw [if_neg hk]
      by_cases hc : (k == 1 || z.length == 0) = true
      · rw [if_pos hc]
        have e1 : (⟨(List.replicate k.toNat z.cps.toList).flatten.toArray⟩ : Str) = z := by
          rcases Bool.or_eq_true _ _ ▸ hc with c | c
          · have : k = 1 := by simpa using c
            subst this
            simp
          · have c' : z.cps.size = 0 := by simpa [Str.length] using c
            have : z.cps = #[] := Array.eq_empty_of_size_eq_zero c'
            cases z with
            | mk cps => simp only at this; subst this; simp
        show EP X pins σ Q (.str z t) s
        have := key s I t
        rw [e1] at this; exact this
      · rw [if_neg hc]
        have e2 : (List.replicate k.toNat z.cps).foldl (· ++ ·) #[] = (List.replicate k.toNat z.cps.toList).flatten.toArray := by
          have := foldl_rep z.cps.toList k.toNat #[]
          simpa using this
        rw [e2]
        refine ⟨?_, key _ (I.tok (s.toks + 1)) s.toks⟩
        show (List.replicate k.toNat z.cps.toList).flatten.toArray.size ≤ sizeLine
        rw [List.size_toArray, List.length_flatten, List.map_replicate, List.sum_replicate_nat, Array.length_toList, Nat.mul_comm]
        exact h3
theorem OkS.rep {s : List Nat} (h : OkS s) {k : Nat} (z : s.length * k ≤ sizeLine) : OkS (List.replicate k s).flatten := by
  refine ⟨?_, fun c hc => ?_⟩
  · rw [List.length_flatten, List.map_replicate, List.sum_replicate_nat, Nat.mul_comm]; exact z
  · obtain ⟨l, hl, hc⟩ := List.mem_flatten.mp hc
    rw [List.eq_of_mem_replicate hl] at hc
    exact h.2 c hc
/-- a * b: ints; a text so many times -/
def gMul (x y : D) (n : Nat) (Q : D → Nat → Prop) : Prop := match x, y with
  | .int i, .int j => MulOk i j ∧ Q (.int (i * j)) n
  | .str s, .int k => (k < 2 ^ 62 ∧ -(2 ^ 62) < k ∧ s.length * k.toNat ≤ sizeLine) ∧ Q (.str (List.replicate k.toNat s).flatten) n
  | _, _ => False
theorem de_mul (ha : DE κ X a fa) (hb : DE κ X b fb) : DE κ X (.BinOp a .Mult b pos) (f2 gMul fa fb) := by
  refine de_op (r := fun x y H Q => (rI MulOk fun i j => .int (i * j)) x y H Q ∨ (∃ s k, x = .str s ∧ y = .int k ∧ k < 2 ^ 62 ∧ -(2 ^ 62) < k ∧ s.length * k.toNat ≤ sizeLine ∧ Q (.str ⟨(List.replicate k.toNat s.cps.toList).flatten.toArray⟩) H)) ?_ (OpR.or op_mulA op_mulS) ha hb
  intro P G H x y dx dy Q R g rx ry hf hR
  cases rx <;> cases ry <;> try (exact False.elim hf)
  · exact .inl ⟨_, _, rfl, rfl, hf.1, hR _ P G H _ .refl g .int hf.2⟩
  · rename_i s hs k
    refine .inr ⟨_, _, rfl, rfl, hf.1.1, hf.1.2.1, by rw [str_len]; exact hf.1.2.2, ?_⟩
    have e : (⟨s.toArray⟩ : Str).cps.toList = s := by simp
    rw [e]
    exact hR _ P G H _ .refl g (.str (hs.rep hf.1.2.2)) hf.2
def gDiv (x y : D) (n : Nat) (Q : D → Nat → Prop) : Prop := match x, y with
  | .int i, .int j => DivOk j ∧ Q (.int (i / j)) n
  | _, _ => False
theorem de_div (ha : DE κ X a fa) (hb : DE κ X b fb) : DE κ X (.BinOp a .FloorDiv b pos) (f2 gDiv fa fb) := by
  refine de_op ?_ op_fdivW ha hb
  intro P G H x y dx dy Q R g rx ry hf hR
  cases rx <;> cases ry <;> try (exact False.elim hf)
  exact ⟨_, _, rfl, rfl, hf.1, hR _ P G H _ .refl g .int hf.2⟩
def gMod (x y : D) (n : Nat) (Q : D → Nat → Prop) : Prop := match x, y with
  | .int i, .int j => 0 < j ∧ Q (.int (i % j)) n
  | _, _ => False
theorem de_mod (ha : DE κ X a fa) (hb : DE κ X b fb) : DE κ X (.BinOp a .Mod b pos) (f2 gMod fa fb) := by
  refine de_op ?_ op_mod ha hb
  intro P G H x y dx dy Q R g rx ry hf hR
  cases rx <;> cases ry <;> try (exact False.elim hf)
  exact ⟨_, _, rfl, rfl, hf.1, hR _ P G H _ .refl g .int hf.2⟩
def CPowW (i j : Int) : Prop := 0 ≤ j ∧ (Builtin.Int.intBits i : Int) * j ≤ 134217728
theorem op_powW : OpR X (binaryOp .Pow) (rI CPowW fun i j => .int (i ^ j.toNat)) := opI fun _ _ _ _ _ _ _ hc q => pow_int hc.1 (by have := hc.2; omega) q
def gPow (x y : D) (n : Nat) (Q : D → Nat → Prop) : Prop := match x, y with
  | .int i, .int j => CPowW i j ∧ Q (.int (i ^ j.toNat)) n
  | _, _ => False
theorem de_pow (ha : DE κ X a fa) (hb : DE κ X b fb) : DE κ X (.BinOp a .Pow b pos) (f2 gPow fa fb) := by
  refine de_op ?_ op_powW ha hb
  intro P G H x y dx dy Q R g rx ry hf hR
  cases rx <;> cases ry <;> try (exact False.elim hf)
  exact ⟨_, _, rfl, rfl, hf.1, hR _ P G H _ .refl g .int hf.2⟩
def gNeg (x : D) (n : Nat) (Q : D → Nat → Prop) : Prop := match x with
  | .int i => Q (.int (-i)) n
  | _ => False
theorem de_neg (ha : DE κ X a fa) : DE κ X (.UnaryOp .USub a pos) (f1 gNeg fa) := by
  refine de_un ?_ un_neg ha
  intro P G H x dx Q R g rx hf hR
  cases rx <;> try (exact False.elim hf)
  exact ⟨_, rfl, hR _ P G H _ .refl g .int hf⟩

/-! ### comparisons -/
mutual
def toPy : D → PyData
  | .non => .none
  | .bl b => .bool b
  | .int i => .int i
  | .str s => .str ⟨s.toArray⟩
  | .lst xs => .list (toPys xs)
  | .tup xs => .tuple (toPys xs)
  | _ => .none
def toPys : List D → List PyData
  | [] => []
  | x :: xs => toPy x :: toPys xs
/-- plain data of depth at most k -/
@[simp] def plain : Nat → D → Bool
  | _, .non => true
  | _, .bl _ => true
  | _, .int _ => true
  | _, .str _ => true
  | k + 1, .lst xs => plains k xs
  | k + 1, .tup xs => plains k xs
  | _, _ => false
@[simp] def plains : Nat → List D → Bool
  | _, [] => true
  | k, x :: xs => plain k x && plains k xs
end
mutual
def eqD : D → D → Bool
  | .non, .non => true
  | .bl a, .bl b => a == b
  | .bl a, .int b => (if a then 1 else 0) == b
  | .int a, .bl b => a == (if b then 1 else 0)
  | .int a, .int b => a == b
  | .str a, .str b => a == b
  | .lst a, .lst b => eqDs a b
  | .tup a, .tup b => eqDs a b
  | _, _ => false
def eqDs : List D → List D → Bool
  | [], [] => true
  | x :: xs, y :: ys => eqD x y && eqDs xs ys
  | _, _ => false
end
@[simp] theorem eqD_non_non   : eqD D.non D.non = true := by simp only [eqD]
@[simp] theorem eqD_non_bl  (b : Bool) : eqD D.non (D.bl b) = false := by simp only [eqD]
@[simp] theorem eqD_non_int  (b : Int) : eqD D.non (D.int b) = false := by simp only [eqD]
@[simp] theorem eqD_non_str  (b : List Nat) : eqD D.non (D.str b) = false := by simp only [eqD]
@[simp] theorem eqD_non_lst  (b : List D) : eqD D.non (D.lst b) = false := by simp only [eqD]
@[simp] theorem eqD_non_tup  (b : List D) : eqD D.non (D.tup b) = false := by simp only [eqD]
@[simp] theorem eqD_bl_non (a : Bool)  : eqD (D.bl a) D.non = false := by simp only [eqD]
@[simp] theorem eqD_bl_bl (a : Bool) (b : Bool) : eqD (D.bl a) (D.bl b) = (a == b) := by simp only [eqD]
@[simp] theorem eqD_bl_int (a : Bool) (b : Int) : eqD (D.bl a) (D.int b) = ((if a then 1 else 0) == b) := by simp only [eqD]
@[simp] theorem eqD_bl_str (a : Bool) (b : List Nat) : eqD (D.bl a) (D.str b) = false := by simp only [eqD]
@[simp] theorem eqD_bl_lst (a : Bool) (b : List D) : eqD (D.bl a) (D.lst b) = false := by simp only [eqD]
@[simp] theorem eqD_bl_tup (a : Bool) (b : List D) : eqD (D.bl a) (D.tup b) = false := by simp only [eqD]
@[simp] theorem eqD_int_non (a : Int)  : eqD (D.int a) D.non = false := by simp only [eqD]
@[simp] theorem eqD_int_bl (a : Int) (b : Bool) : eqD (D.int a) (D.bl b) = (a == (if b then 1 else 0)) := by simp only [eqD]
@[simp] theorem eqD_int_int (a : Int) (b : Int) : eqD (D.int a) (D.int b) = (a == b) := by simp only [eqD]
@[simp] theorem eqD_int_str (a : Int) (b : List Nat) : eqD (D.int a) (D.str b) = false := by simp only [eqD]
@[simp] theorem eqD_int_lst (a : Int) (b : List D) : eqD (D.int a) (D.lst b) = false := by simp only [eqD]
@[simp] theorem eqD_int_tup (a : Int) (b : List D) : eqD (D.int a) (D.tup b) = false := by simp only [eqD]
@[simp] theorem eqD_str_non (a : List Nat)  : eqD (D.str a) D.non = false := by simp only [eqD]
@[simp] theorem eqD_str_bl (a : List Nat) (b : Bool) : eqD (D.str a) (D.bl b) = false := by simp only [eqD]
@[simp] theorem eqD_str_int (a : List Nat) (b : Int) : eqD (D.str a) (D.int b) = false := by simp only [eqD]
@[simp] theorem eqD_str_str (a : List Nat) (b : List Nat) : eqD (D.str a) (D.str b) = (a == b) := by simp only [eqD]
@[simp] theorem eqD_str_lst (a : List Nat) (b : List D) : eqD (D.str a) (D.lst b) = false := by simp only [eqD]
@[simp] theorem eqD_str_tup (a : List Nat) (b : List D) : eqD (D.str a) (D.tup b) = false := by simp only [eqD]
@[simp] theorem eqD_lst_non (a : List D)  : eqD (D.lst a) D.non = false := by simp only [eqD]
@[simp] theorem eqD_lst_bl (a : List D) (b : Bool) : eqD (D.lst a) (D.bl b) = false := by simp only [eqD]
@[simp] theorem eqD_lst_int (a : List D) (b : Int) : eqD (D.lst a) (D.int b) = false := by simp only [eqD]
@[simp] theorem eqD_lst_str (a : List D) (b : List Nat) : eqD (D.lst a) (D.str b) = false := by simp only [eqD]
@[simp] theorem eqD_lst_lst (a : List D) (b : List D) : eqD (D.lst a) (D.lst b) = eqDs a b := by simp only [eqD]
@[simp] theorem eqD_lst_tup (a : List D) (b : List D) : eqD (D.lst a) (D.tup b) = false := by simp only [eqD]
@[simp] theorem eqD_tup_non (a : List D)  : eqD (D.tup a) D.non = false := by simp only [eqD]
@[simp] theorem eqD_tup_bl (a : List D) (b : Bool) : eqD (D.tup a) (D.bl b) = false := by simp only [eqD]
@[simp] theorem eqD_tup_int (a : List D) (b : Int) : eqD (D.tup a) (D.int b) = false := by simp only [eqD]
@[simp] theorem eqD_tup_str (a : List D) (b : List Nat) : eqD (D.tup a) (D.str b) = false := by simp only [eqD]
@[simp] theorem eqD_tup_lst (a : List D) (b : List D) : eqD (D.tup a) (D.lst b) = false := by simp only [eqD]
@[simp] theorem eqD_tup_tup (a : List D) (b : List D) : eqD (D.tup a) (D.tup b) = eqDs a b := by simp only [eqD]
@[simp] theorem eqDs_nil : eqDs [] [] = true := by simp only [eqDs]
@[simp] theorem eqDs_cons (x y : D) (xs ys : List D) : eqDs (x :: xs) (y :: ys) = (eqD x y && eqDs xs ys) := by simp only [eqDs]
@[simp] theorem eqDs_nil_cons (y : D) (ys : List D) : eqDs [] (y :: ys) = false := by simp only [eqDs]
@[simp] theorem eqDs_cons_nil (y : D) (ys : List D) : eqDs (y :: ys) [] = false := by simp only [eqDs]
theorem str_beq (a b : List Nat) : ((⟨a.toArray⟩ : Str) == ⟨b.toArray⟩) = (a == b) := by
  rw [Bool.eq_iff_iff, beq_iff_eq, beq_iff_eq]
  exact ⟨fun e => by injection e with e; simpa using e, fun e => by rw [e]⟩
mutual
theorem eqv_toPy : ∀ (k l : Nat) (x y : D), plain k x = true → plain l y = true → PyData.eqv (toPy x) (toPy y) = eqD x y
  | k, l, .non, y, hx, hy => by cases y <;> simp [toPy, PyData.eqv, eqD] <;> cases l <;> simp [plain] at hy
  | k, l, .bl _, y, hx, hy => by cases y <;> simp [toPy, PyData.eqv, eqD]
  | k, l, .int _, y, hx, hy => by cases y <;> simp [toPy, PyData.eqv, eqD]
  | k, l, .str _, y, hx, hy => by cases y <;> simp [toPy, PyData.eqv, eqD, str_beq]
  | 0, _, .lst _, _, hx, _ => by simp [plain] at hx
  | 0, _, .tup _, _, hx, _ => by simp [plain] at hx
  | k + 1, l, .lst xs, y, hx, hy => by
    cases y with
    | lst ys =>
      cases l with
      | zero => simp [plain] at hy
      | succ l =>
        simp only [plain] at hx hy
        simp only [toPy, PyData.eqv, eqD]
        exact eqvAll_toPy k l xs ys hx hy
    | _ => simp [toPy, PyData.eqv, eqD]
  | k + 1, l, .tup xs, y, hx, hy => by
    cases y with
    | tup ys =>
      cases l with
      | zero => simp [plain] at hy
      | succ l =>
        simp only [plain] at hx hy
        simp only [toPy, PyData.eqv, eqD]
        exact eqvAll_toPy k l xs ys hx hy
    | _ => simp [toPy, PyData.eqv, eqD]
  | k, _, .dct _ _, _, hx, _ => by cases k <;> simp [plain] at hx
  | k, _, .dcu _ _, _, hx, _ => by cases k <;> simp [plain] at hx
  | k, _, .obj _ _, _, hx, _ => by cases k <;> simp [plain] at hx
  | k, _, .box _ _, _, hx, _ => by cases k <;> simp [plain] at hx
  | k, _, .scr _, _, hx, _ => by cases k <;> simp [plain] at hx
theorem eqvAll_toPy : ∀ (k l : Nat) (x y : List D), plains k x = true → plains l y = true → PyData.eqvAll (toPys x) (toPys y) = eqDs x y
  | _, _, [], [], _, _ => by simp [toPys, PyData.eqvAll, eqDs]
  | _, _, [], _ :: _, _, _ => by simp [toPys, PyData.eqvAll, eqDs]
  | _, _, _ :: _, [], _, _ => by simp [toPys, PyData.eqvAll, eqDs]
  | k, l, x :: xs, y :: ys, hx, hy => by
    rw [plains, Bool.and_eq_true] at hx hy
    simp only [toPys, PyData.eqvAll, eqDs, eqv_toPy k l x y hx.1 hy.1, eqvAll_toPy k l xs ys hx.2 hy.2]
end
section
variable {K : PySem.W.Frag} {G : Hp} {iv : IV}
mutual
theorem Rep.dp : ∀ (k : Nat) {v : V} {d : D}, Rep κ G iv v d → plain k d = true → Dp K G v (toPy d) ∧ (toPy d).canLay0 = true ∧ (toPy d).depth ≤ k
  | _, _, _, .non, _ => ⟨.non, rfl, Nat.zero_le _⟩
  | _, _, _, .bl, _ => ⟨.bl _, rfl, Nat.zero_le _⟩
  | _, _, _, .int, _ => ⟨.int _, rfl, Nat.zero_le _⟩
  | _, _, _, .str h, _ => ⟨.str _, by
      show PyData.strOk _ = true
      unfold PyData.strOk
      rw [Array.all_eq_true_iff_forall_mem]
      intro c hc
      exact decide_eq_true (h.2 c (by simpa using hc)), Nat.zero_le _⟩
  | 0, _, _, .lst h z r, q => by simp [plain] at q
  | 0, _, _, .tup h z r, q => by simp [plain] at q
  | k + 1, _, _, .lst h z r, q => by
    obtain ⟨h1, h2, h3⟩ := Reps.dp k r (by simpa [plain] using q)
    exact ⟨.lst (SqL.of h) h1, h2, Nat.succ_le_succ h3⟩
  | k + 1, _, _, .tup h z r, q => by
    obtain ⟨h1, h2, h3⟩ := Reps.dp k r (by simpa [plain] using q)
    exact ⟨.tup (SqT.of h) h1, h2, Nat.succ_le_succ h3⟩
  | k, _, _, .dctK .., q => by cases k <;> simp [plain] at q
  | k, _, _, .dctT .., q => by cases k <;> simp [plain] at q
  | k, _, _, .obj .., q => by cases k <;> simp [plain] at q
  | k, _, _, .box .., q => by cases k <;> simp [plain] at q
  | k, _, _, .scr .., q => by cases k <;> simp [plain] at q
theorem Reps.dp : ∀ (k : Nat) {v : List V} {d : List D}, Reps κ G iv v d → plains k d = true → DpAll K G v (toPys d) ∧ PyData.canLayAll0 (toPys d) = true ∧ PyData.depthAll (toPys d) ≤ k
  | _, _, _, .nil, _ => ⟨.nil, rfl, Nat.zero_le _⟩
  | k, _, _, .cons r t, q => by
    simp only [plains, Bool.and_eq_true] at q
    obtain ⟨h1, h2, h3⟩ := Rep.dp k r q.1
    obtain ⟨t1, t2, t3⟩ := Reps.dp k t q.2
    exact ⟨.cons h1 t1, by simp only [toPys, PyData.canLayAll0, h2, t2]; rfl, Nat.max_le.mpr ⟨h3, t3⟩⟩
end
end
mutual
theorem Dp.mono {K : PySem.W.Frag} {G H : Hp} (h : ∀ a o, G a = some o → At H a o) : ∀ {v : V} {d : PyData}, Dp K G v d → Dp K H v d
  | _, _, .non => .non
  | _, _, .bl b => .bl b
  | _, _, .int b => .int b
  | _, _, .str b => .str b
  | _, _, .lst q r => .lst (by
      rcases q with (q | ⟨o, q⟩) | q
      · exact .inl (.inl ((h _ _ q).x rfl))
      · exact .inl (.inr ⟨o, (h _ _ q).x rfl⟩)
      · exact .inr q) (DpAll.mono h r)
  | _, _, .tup q r => .tup (by
      rcases q with (q | ⟨o, q⟩) | q
      · exact .inl (.inl ((h _ _ q).x rfl))
      · exact .inl (.inr ⟨o, (h _ _ q).x rfl⟩)
      · exact .inr q) (DpAll.mono h r)
theorem DpAll.mono {K : PySem.W.Frag} {G H : Hp} (h : ∀ a o, G a = some o → At H a o) : ∀ {v : List V} {d : List PyData}, DpAll K G v d → DpAll K H v d
  | _, _, .nil => .nil
  | _, _, .cons r t => .cons (Dp.mono h r) (DpAll.mono h t)
end
@[simp] def gEq (x y : D) (n : Nat) (Q : D → Nat → Prop) : Prop := (plain 64 x = true ∧ plain 64 y = true) ∧ Q (.bl (eqD x y)) n
@[simp] def gNe (x y : D) (n : Nat) (Q : D → Nat → Prop) : Prop := (plain 64 x = true ∧ plain 64 y = true) ∧ Q (.bl (!eqD x y)) n
theorem shaped_of {d : PyData} (h1 : d.canLay0 = true) (h2 : d.depth ≤ 64) : SeqAt.shaped d = true := by
  unfold SeqAt.shaped
  rw [h1, decide_eq_true h2]; rfl
theorem cr_eq (hu : X.A.units + 64 < cLine)  : CR κ X .Eq gEq := by
  refine ⟨_, ?_, (op_eqD hu)⟩
  intro P G H x y dx dy Q R g rx ry hf hR
  obtain ⟨x1, x2, x3⟩ := Rep.dp (K := X.K) 64 rx hf.1.1
  obtain ⟨y1, y2, y3⟩ := Rep.dp (K := X.K) 64 ry hf.1.2
  refine ⟨_, _, Dp.mono g.gh x1, Dp.mono g.gh y1, shaped_of x2 x3, shaped_of y2 y3, ?_⟩
  rw [eqv_toPy 64 64 dx dy hf.1.1 hf.1.2]
  exact hR _ P G H _ .refl g .bl hf.2
theorem cr_ne (hu : X.A.units + 64 < cLine)  : CR κ X .NotEq gNe := by
  refine ⟨_, ?_, (op_neD hu)⟩
  intro P G H x y dx dy Q R g rx ry hf hR
  obtain ⟨x1, x2, x3⟩ := Rep.dp (K := X.K) 64 rx hf.1.1
  obtain ⟨y1, y2, y3⟩ := Rep.dp (K := X.K) 64 ry hf.1.2
  refine ⟨_, _, Dp.mono g.gh x1, Dp.mono g.gh y1, shaped_of x2 x3, shaped_of y2 y3, ?_⟩
  rw [eqv_toPy 64 64 dx dy hf.1.1 hf.1.2]
  exact hR _ P G H _ .refl g .bl hf.2
end
end DL

/-! ## DL4 -/
/-! DL4: comparisons, tests, types -/
namespace DL
open PySem PySem.Spec PyProof.Rows L2
section
variable {κ : Kit} {X : Cx} {a b c e : Expr} {es : List Expr} {fa fb fc f : FE} {far : FA} {pos : Pos}

/-! ### order -/
def gLt (x y : D) (n : Nat) (Q : D → Nat → Prop) : Prop := match x, y with
  | .int i, .int j => Q (.bl (decide (i < j))) n
  | .str s, .str t => Q (.bl (decide (s < t))) n
  | _, _ => False
def gLe (x y : D) (n : Nat) (Q : D → Nat → Prop) : Prop := match x, y with
  | .int i, .int j => Q (.bl (decide (i ≤ j))) n
  | .str s, .str t => Q (.bl (!decide (t < s))) n
  | _, _ => False
@[simp] def gGt (x y : D) (n : Nat) (Q : D → Nat → Prop) : Prop := gLt y x n Q
@[simp] def gGe (x y : D) (n : Nat) (Q : D → Nat → Prop) : Prop := gLe y x n Q
abbrev rLtA : R2 := fun x y H Q => (rI0 fun i j => .bl (decide (i < j))) x y H Q ∨ (∃ i j, x = .str i ∧ y = .str j ∧ Q (.bl (decide (i.cps.toList < j.cps.toList))) H)
abbrev rLeA : R2 := fun x y H Q => (rI0 fun i j => .bl (decide (i ≤ j))) x y H Q ∨ (∃ i j, x = .str i ∧ y = .str j ∧ Q (.bl (!decide (j.cps.toList < i.cps.toList))) H)
abbrev rGtA : R2 := fun x y H Q => (rI0 fun i j => .bl (decide (j < i))) x y H Q ∨ (∃ i j, x = .str i ∧ y = .str j ∧ Q (.bl (decide (j.cps.toList < i.cps.toList))) H)
abbrev rGeA : R2 := fun x y H Q => (rI0 fun i j => .bl (decide (j ≤ i))) x y H Q ∨ (∃ i j, x = .str i ∧ y = .str j ∧ Q (.bl (!decide (i.cps.toList < j.cps.toList))) H)
theorem cpsL (s : List Nat) : (⟨s.toArray⟩ : Str).cps.toList = s := by simp
theorem lift_lt : LiftR κ rLtA gLt := by
  intro P G H x y dx dy Q R g rx ry hf hR
  cases rx <;> cases ry <;> try (exact False.elim hf)
  · exact .inl ⟨_, _, rfl, rfl, hR _ P G H _ .refl g .bl hf⟩
  · exact .inr ⟨_, _, rfl, rfl, by rw [cpsL, cpsL]; exact hR _ P G H _ .refl g .bl hf⟩
theorem lift_le : LiftR κ rLeA gLe := by
  intro P G H x y dx dy Q R g rx ry hf hR
  cases rx <;> cases ry <;> try (exact False.elim hf)
  · exact .inl ⟨_, _, rfl, rfl, hR _ P G H _ .refl g .bl hf⟩
  · exact .inr ⟨_, _, rfl, rfl, by rw [cpsL, cpsL]; exact hR _ P G H _ .refl g .bl hf⟩
theorem lift_gt : LiftR κ rGtA gGt := by
  intro P G H x y dx dy Q R g rx ry hf hR
  cases rx <;> cases ry <;> try (exact False.elim hf)
  · exact .inl ⟨_, _, rfl, rfl, hR _ P G H _ .refl g .bl hf⟩
  · exact .inr ⟨_, _, rfl, rfl, by rw [cpsL, cpsL]; exact hR _ P G H _ .refl g .bl hf⟩
theorem lift_ge : LiftR κ rGeA gGe := by
  intro P G H x y dx dy Q R g rx ry hf hR
  cases rx <;> cases ry <;> try (exact False.elim hf)
  · exact .inl ⟨_, _, rfl, rfl, hR _ P G H _ .refl g .bl hf⟩
  · exact .inr ⟨_, _, rfl, rfl, by rw [cpsL, cpsL]; exact hR _ P G H _ .refl g .bl hf⟩
theorem op_ltA : OpR X (compareOp .Lt) rLtA := OpR.or op_lt op_lt_str
theorem op_leA : OpR X (compareOp .LtE) rLeA := OpR.or op_le op_le_str
theorem op_gtA : OpR X (compareOp .Gt) rGtA := OpR.or op_gt op_gt_str
theorem op_geA : OpR X (compareOp .GtE) rGeA := OpR.or op_ge op_ge_str
theorem cr_lt : CR κ X .Lt gLt := ⟨_, lift_lt, op_ltA⟩
theorem cr_le : CR κ X .LtE gLe := ⟨_, lift_le, op_leA⟩
theorem cr_gt : CR κ X .Gt gGt := ⟨_, lift_gt, op_gtA⟩
theorem cr_ge : CR κ X .GtE gGe := ⟨_, lift_ge, op_geA⟩
/-- a op b op' c -/
@[simp] def fChain (g g' : D → D → Nat → (D → Nat → Prop) → Prop) (fa fb fc : FE) : FE := fun env n Q => fa env n fun x n1 => fb env n1 fun y n2 => g x y n2 fun z n3 => gB z n3 fun k n3 => (if k = true then fc env n3 fun w n4 => g' y w n4 Q else Q (.bl false) n3)
theorem rep_bl {G : Hp} {iv : IV} {v : V} {k : Bool} (r : Rep κ G iv v (.bl k)) : v = .bl k := by cases r; rfl
theorem chain_lift {r r' : R2} {φ φ' : D → D → Nat → (D → Nat → Prop) → Prop} {ta tb tc : TE} (hl : LiftR κ r φ) (hl' : LiftR κ r' φ') (qa : RdE κ fa ta) (qb : RdE κ fb tb) (qc : RdE κ fc tc) : RdE κ (fChain φ φ' fa fb fc) (tChain r r' ta tb tc) := fun P G H σ env Q R g ev hf hR => by
  refine qa P G H σ env _ _ g ev hf fun x P1 G1 H1 dx gr1 g1 rx hf1 => qb P1 G1 H1 σ env _ _ g1 (ev.grow gr1) hf1 fun y P2 G2 H2 dy gr2 g2 ry hf2 => ?_
  refine hl P2 G2 H2 x y dx dy _ (fun z H3 => ∃ k, z = .bl k ∧ (if k = true then tc σ H3 fun w' H4 => r' y w' H4 R else R (.bl false) H3)) g2 (gr2.rep rx) ry hf2 ?_
  intro z P3 G3 H3 dz gr3 g3 rz hf3
  obtain ⟨k, ek, hf4⟩ := hf3
  subst ek
  refine ⟨k, rep_bl rz, ?_⟩
  cases k with
  | false => exact hR _ P3 G3 H3 _ ((gr1.trans gr2).trans gr3) g3 .bl hf4
  | true => exact qc P3 G3 H3 σ env _ _ g3 (((ev.grow gr1).grow gr2).grow gr3) hf4 fun w P4 G4 H4 dw gr4 g4 rw' hf5 => hl' P4 G4 H4 y w dy dw Q R g4 (gr4.rep (gr3.rep ry)) rw' hf5 (Lk.grow (((gr1.trans gr2).trans gr3).trans gr4) hR)
theorem e_chain {op op' : CmpOp} {φ φ' : D → D → Nat → (D → Nat → Prop) → Prop} (h1 : CR κ X op φ) (h2 : CR κ X op' φ') (ha : DE κ X a fa) (hb : DE κ X b fb) (hc : DE κ X c fc)
    (hm : lastMarks [op, op'] [b, c] = false := by with_unfolding_all rfl) : DE κ X (.Compare a [op, op'] [b, c] pos) (fChain φ φ' fa fb fc) := by
  obtain ⟨r, hl, ho⟩ := h1
  obtain ⟨r', hl', ho'⟩ := h2
  obtain ⟨ta, pa, qa⟩ := ha
  obtain ⟨tb, pb, qb⟩ := hb
  obtain ⟨tc, pc, qc⟩ := hc
  exact ⟨_, pe_chain ho ho' pa pb pc hm, chain_lift hl hl' qa qb qc⟩
theorem t_chain {op op' : CmpOp} {φ φ' : D → D → Nat → (D → Nat → Prop) → Prop} (h1 : CR κ X op φ) (h2 : CR κ X op' φ') (ha : DE κ X a fa) (hb : DE κ X b fb) (hc : DE κ X c fc)
    (hm : lastMarks [op, op'] [b, c] = false := by with_unfolding_all rfl) : DT κ X (.Compare a [op, op'] [b, c] pos) (tVal (fChain φ φ' fa fb fc)) := by
  obtain ⟨r, hl, ho⟩ := h1
  obtain ⟨r', hl', ho'⟩ := h2
  obtain ⟨ta, pa, qa⟩ := ha
  obtain ⟨tb, pb, qb⟩ := hb
  obtain ⟨tc, pc, qc⟩ := hc
  refine ⟨_, pt_chain ho ho' pa pb pc hm, fun P G H σ env Q R g ev hf hR => chain_lift hl hl' qa qb qc P G H σ env _ _ g ev hf fun v P' G' H' d gr g' rv hq => ?_⟩
  obtain ⟨b, e, hq⟩ := hq
  subst e
  exact ⟨b, rep_bl rv, hR b P' G' H' gr g' hq⟩

/-! ### is None -/
@[simp] def gIsN (x y : D) (n : Nat) (Q : D → Nat → Prop) : Prop := y = .non ∧ Q (.bl (decide (x = .non))) n
@[simp] def gNotN (x y : D) (n : Nat) (Q : D → Nat → Prop) : Prop := y = .non ∧ Q (.bl (!decide (x = .non))) n
theorem rep_non {G : Hp} {iv : IV} {v : V} {d : D} (r : Rep κ G iv v d) : decide (v = .non) = decide (d = .non) := by cases r <;> rfl
theorem cr_isN  : CR κ X .Is gIsN := by
  refine ⟨_, ?_, op_isN⟩
  intro P G H x y dx dy Q R g rx ry hf hR
  obtain ⟨e, hf⟩ := hf
  subst e
  cases ry
  exact ⟨rfl, by rw [rep_non rx]; exact hR _ P G H _ .refl g .bl hf⟩
theorem cr_notN  : CR κ X .IsNot gNotN := by
  refine ⟨_, ?_, op_notN⟩
  intro P G H x y dx dy Q R g rx ry hf hR
  obtain ⟨e, hf⟩ := hf
  subst e
  cases ry
  exact ⟨rfl, by rw [rep_non rx]; exact hR _ P G H _ .refl g .bl hf⟩

/-! ### in -/
def flatD : D → Bool
  | .non => true | .bl _ => true | .int _ => true | .str _ => true | _ => false
@[simp] theorem flatD_non : flatD .non = true := rfl
@[simp] theorem flatD_bl (b : Bool) : flatD (.bl b) = true := rfl
@[simp] theorem flatD_int (i : Int) : flatD (.int i) = true := rfl
@[simp] theorem flatD_str (s : List Nat) : flatD (.str s) = true := rfl
@[simp] theorem flatD_lst (s : List D) : flatD (.lst s) = false := rfl
@[simp] theorem flatD_tup (s : List D) : flatD (.tup s) = false := rfl
def keyOf : D → Option Key
  | .int i => some (.inl i)
  | .str s => some (.inr ⟨s.toArray⟩)
  | _ => none
@[simp] def isKeyD : D → Bool
  | .int _ => true | .str _ => true | _ => false
def isKey : D → Bool
  | .int _ => true | .str _ => true
  | .tup xs => xs.all isKeyD
  | _ => false
@[simp] def dGet : List D → List D → D → Option D
  | k :: ks, v :: vs, x => if k = x then some v else dGet ks vs x
  | _, _, _ => none
theorem keyD_inj {k l : Key} (h : keyD k = keyD l) : k = l := by
  cases k with
  | inl i => cases l with
    | inl j => simp [keyD] at h; rw [h]
    | inr y => simp [keyD] at h
  | inr x => cases l with
    | inl j => simp [keyD] at h
    | inr y =>
      simp only [keyD, D.str.injEq] at h
      have : x = y := by cases x; cases y; congr; exact Array.toList_inj.mp h
      rw [this]
theorem keyDs_inj : ∀ {k l : List Key}, k.map keyD = l.map keyD → k = l
  | [], [], _ => rfl
  | [], _ :: _, h => by simp at h
  | _ :: _, [], h => by simp at h
  | a :: k, b :: l, h => by
    simp only [List.map_cons, List.cons.injEq] at h
    rw [keyD_inj h.1, keyDs_inj h.2]
theorem valV_get {κ' : Type} [DecidableEq κ'] (κ : Kit) {f : κ' → D} (inj : ∀ {x y}, f x = f y → x = y) {G : Hp} {iv : IV} : ∀ {ks : List κ'} {us : List V} {vs : List D} {k : κ'}, ks.length = us.length → Reps κ G iv us vs →
    (∀ d, dGet (ks.map f) vs (f k) = some d → ∃ v, valV (ks.zip us) k = some v ∧ Rep κ G iv v d) ∧ (dGet (ks.map f) vs (f k) = none → valV (ks.zip us) k = none)
  | [], us, vs, k, _, _ => ⟨fun d h => by simp [dGet] at h, fun _ => rfl⟩
  | k0 :: ks, [], vs, k, hl, r => by simp at hl
  | k0 :: ks, u :: us, _, k, hl, .cons (d := d0) (ds := ds) r t => by
    have ih := valV_get κ inj (ks := ks) (us := us) (k := k) (by simpa using hl) t
    by_cases h : k0 = k
    · subst h
      refine ⟨fun d hd => ?_, fun hd => ?_⟩
      · simp only [List.map_cons, dGet, if_true, Option.some.injEq] at hd
        subst hd
        exact ⟨u, by simp [valV], r⟩
      · simp [dGet] at hd
    · have h' : ¬ f k0 = f k := fun e => h (inj e)
      simp only [List.map_cons, dGet, if_neg h']
      have e : valV ((k0 :: ks).zip (u :: us)) k = valV (ks.zip us) k := by simp [valV, h]
      rw [e]
      exact ih
theorem rep_key {G : Hp} {iv : IV} {v : V} {d : D} (r : Rep κ G iv v d) (h : isKeyD d = true) : ∃ k, v = kV k ∧ d = keyD k := by
  cases r <;> try (simp [isKeyD] at h)
  · exact ⟨.inl _, rfl, rfl⟩
  · rename_i s hs
    exact ⟨.inr ⟨s.toArray⟩, rfl, by simp [keyD]⟩
theorem reps_key {G : Hp} {iv : IV} : ∀ {v : List V} {d : List D}, Reps κ G iv v d → d.all isKeyD = true → ∃ k : List Key, v = k.map kV ∧ d = k.map keyD
  | _, _, .nil, _ => ⟨[], rfl, rfl⟩
  | _, _, .cons r t, h => by
    simp only [List.all_cons, Bool.and_eq_true] at h
    obtain ⟨k, e1, e2⟩ := rep_key r h.1
    obtain ⟨ks, e3, e4⟩ := reps_key t h.2
    exact ⟨k :: ks, by rw [e1, e3]; rfl, by rw [e2, e4]; rfl⟩
/-- a key of a dict that has keys of its kind -/
@[simp] def dKind : D → D → Bool
  | .dct _ _, k => isKeyD k
  | .dcu _ _, .tup xs => xs.all isKeyD
  | _, _ => false
def dLook : D → D → Option D
  | .dct ks vs, k => dGet ks vs k
  | .dcu ks vs, k => dGet ks vs k
  | _, _ => none
theorem rep_dget {G H : Hp} {iv : IV} {a : V} {dd : D} {y : V} {k : D} (hgh : ∀ a o, G a = some o → At H a o) (r : Rep κ G iv a dd) (ry : Rep κ G iv y k) (hk : dKind dd k = true) :
    ∃ p, a = .ref p ∧ ((∀ d, dLook dd k = some d → ∃ v, DGet H p y (some v) ∧ Rep κ G iv v d) ∧ (dLook dd k = none → DGet H p y none)) := by
  cases r with
  | @dctK p kk us _ h hl z nd r =>
    refine ⟨p, rfl, ?_⟩
    obtain ⟨k1, e1, e2⟩ := rep_key ry hk
    subst e1 e2
    have q := valV_get κ (f := keyD) keyD_inj (k := k1) hl r
    exact ⟨fun d hd => by
      obtain ⟨v, h1, h2⟩ := q.1 d hd
      exact ⟨v, .inl ⟨_, k1, (hgh _ _ h).rd, rfl, h1.symm⟩, h2⟩, fun hd => .inl ⟨_, k1, (hgh _ _ h).rd, rfl, (q.2 hd).symm⟩⟩
  | @dctT p kk us _ h hl z nd r =>
    refine ⟨p, rfl, ?_⟩
    cases ry with
    | tup hy zy ry' =>
      obtain ⟨k1, e1, e2⟩ := reps_key ry' hk
      subst e1 e2
      have q := valV_get κ (f := fun k : List Key => D.tup (k.map keyD)) (fun h => keyDs_inj (by simpa using h)) (k := k1) hl r
      exact ⟨fun d hd => by
        obtain ⟨v, h1, h2⟩ := q.1 d hd
        exact ⟨v, .inr ⟨_, k1, _, (hgh _ _ h).rd, rfl, (hgh _ _ hy).x rfl, h1.symm⟩, h2⟩, fun hd => .inr ⟨_, k1, _, (hgh _ _ h).rd, rfl, (hgh _ _ hy).x rfl, (q.2 hd).symm⟩⟩
    | _ => exact absurd hk (by simp [dKind])
  | _ => exact absurd hk (by simp [dKind])

/-- x in y: a list or tuple of flat things, a sign in a text, a key of a dict -/
def gIn (x y : D) (n : Nat) (Q : D → Nat → Prop) : Prop := match y with
  | .lst ys => (flatD x = true ∧ ys.all flatD = true) ∧ Q (.bl (ys.any fun y => eqD y x)) n
  | .tup ys => (flatD x = true ∧ ys.all flatD = true) ∧ Q (.bl (ys.any fun y => eqD y x)) n
  | .str t => ∃ c, x = .str [c] ∧ Q (.bl (decide (c ∈ t))) n
  | .dct ks vs => isKeyD x = true ∧ Q (.bl (dGet ks vs x).isSome) n
  | .dcu ks vs => dKind (.dcu ks vs) x = true ∧ Q (.bl (dGet ks vs x).isSome) n
  | _ => False
@[simp] def gNotIn (x y : D) (n : Nat) (Q : D → Nat → Prop) : Prop := gIn x y n fun d m => gB d m fun b m => Q (.bl (!b)) m
theorem flatV_of {G : Hp} {iv : IV} {v : V} {d : D} (r : Rep κ G iv v d) (h : flatD d = true) : flatV v = true := by
  cases r <;> first | rfl | (simp [flatD] at h)
theorem flatVs_of {G : Hp} {iv : IV} : ∀ {v : List V} {d : List D}, Reps κ G iv v d → d.all flatD = true → v.all flatV = true
  | _, _, .nil, _ => rfl
  | _, _, .cons r t, h => by
    simp only [List.all_cons, Bool.and_eq_true] at h ⊢
    exact ⟨flatV_of r h.1, flatVs_of t h.2⟩
theorem eqV_of {G : Hp} {iv : IV} {v u : V} {d e : D} (r : Rep κ G iv v d) (q : Rep κ G iv u e) (h : flatD d = true) (k : flatD e = true) : eqV v u = eqD d e := by
  cases r <;> (try (simp [flatD] at h; done)) <;> cases q <;> (try (simp [flatD] at k; done)) <;> simp [eqV, eqD, str_beq]
theorem inV_of {G : Hp} {iv : IV} {v : V} {d : D} (r : Rep κ G iv v d) (h : flatD d = true) : ∀ {us : List V} {es : List D}, Reps κ G iv us es → es.all flatD = true → inV v us = es.any fun y => eqD y d
  | _, _, .nil, _ => rfl
  | _, _, .cons q t, k => by
    simp only [List.all_cons, Bool.and_eq_true] at k
    have ih := inV_of r h t k.2
    unfold inV at ih ⊢
    rw [List.any_cons, List.any_cons, eqV_of q r k.1 h, ih]
abbrev rInD : R2 := fun y x H Q => ∃ a o, x = .ref a ∧ DGet H a y o ∧ Q (.bl o.isSome) H
abbrev rNotInD : R2 := fun y x H Q => ∃ a o, x = .ref a ∧ DGet H a y o ∧ Q (.bl (!o.isSome)) H
theorem op_inD (hu : X.A.units + 1 < cLine) : OpR X (compareOp .In) rInD := by
  intro pins s σ H x y v u Q I rx ry h
  obtain ⟨a, o, rfl, g, q⟩ := h
  obtain rfl : u = Value.ref a := ry
  exact d_in hu I g rx fun s' I' => ⟨.bl o.isSome, H, I', rfl, q⟩
theorem op_notInD (hu : X.A.units + 1 < cLine) : OpR X (compareOp .NotIn) rNotInD := by
  intro pins s σ H x y v u Q I rx ry h
  obtain ⟨a, o, rfl, g, q⟩ := h
  obtain rfl : u = Value.ref a := ry
  exact d_notIn hu I g rx fun s' I' => ⟨.bl (!o.isSome), H, I', rfl, q⟩
abbrev rSign (neg : Bool) : R2 := fun x y H Q => ∃ (c : Nat) (z : Str), x = .str ⟨#[c]⟩ ∧ y = .str z ∧ Q (.bl (if neg then !decide (c ∈ z.cps.toList) else decide (c ∈ z.cps.toList))) H
theorem cr_in (hu : X.A.units + 1 < cLine)  : CR κ X .In gIn := by
  refine ⟨fun x y H Q => rIn X.K false x y H Q ∨ ((∃ (c : Nat) (z : Str), x = .str ⟨#[c]⟩ ∧ y = .str z ∧ Q (.bl (decide (c ∈ z.cps.toList))) H) ∨ rInD x y H Q), ?_, (OpR.or op_in_seq (OpR.or op_in_sign (op_inD hu)))⟩
  intro P G H x y dx dy Q R g rx ry hf hR
  cases ry <;> try (exact False.elim hf)
  · obtain ⟨c, e, hf⟩ := hf
    subst e
    cases rx
    exact .inr (.inl ⟨c, _, rfl, rfl, by rw [cpsL]; exact hR _ P G H _ .refl g .bl hf⟩)
  · rename_i p us ys h z r
    refine .inl ⟨p, us, rfl, .inl (SqL.of (g.gx h rfl)), flatV_of rx hf.1.1, flatVs_of r hf.1.2, ?_⟩
    rw [show (if false = true then !inV x us else inV x us) = inV x us from rfl, inV_of rx hf.1.1 r hf.1.2]
    exact hR _ P G H _ .refl g .bl hf.2
  · rename_i p us ys h z r
    refine .inl ⟨p, us, rfl, .inr (SqT.of (g.gx h rfl)), flatV_of rx hf.1.1, flatVs_of r hf.1.2, ?_⟩
    rw [show (if false = true then !inV x us else inV x us) = inV x us from rfl, inV_of rx hf.1.1 r hf.1.2]
    exact hR _ P G H _ .refl g .bl hf.2
  · rename_i p kk us vs h hl z nd r
    have q := rep_dget g.gh (Rep.dctK h hl z nd r) rx hf.1
    obtain ⟨p', e, q1, q2⟩ := q
    cases e
    refine .inr (.inr ?_)
    cases e : dGet (kk.map keyD) vs dx with
    | none =>
      have hf2 := hf.2
      rw [e] at hf2
      exact ⟨p, none, rfl, q2 e, hR _ P G H _ .refl g .bl hf2⟩
    | some d =>
      obtain ⟨v, w1, w2⟩ := q1 d e
      have hf2 := hf.2
      rw [e] at hf2
      exact ⟨p, some v, rfl, w1, hR _ P G H _ .refl g .bl hf2⟩
  · rename_i p kk us vs h hl z nd r
    have q := rep_dget g.gh (Rep.dctT h hl z nd r) rx hf.1
    obtain ⟨p', e, q1, q2⟩ := q
    cases e
    refine .inr (.inr ?_)
    cases e : dGet (kk.map fun k => .tup (k.map keyD)) vs dx with
    | none =>
      have hf2 := hf.2
      rw [e] at hf2
      exact ⟨p, none, rfl, q2 e, hR _ P G H _ .refl g .bl hf2⟩
    | some d =>
      obtain ⟨v, w1, w2⟩ := q1 d e
      have hf2 := hf.2
      rw [e] at hf2
      exact ⟨p, some v, rfl, w1, hR _ P G H _ .refl g .bl hf2⟩
theorem cr_notIn (hu : X.A.units + 1 < cLine)  : CR κ X .NotIn gNotIn := by
  refine ⟨fun x y H Q => rIn X.K true x y H Q ∨ ((∃ (c : Nat) (z : Str), x = .str ⟨#[c]⟩ ∧ y = .str z ∧ Q (.bl (!decide (c ∈ z.cps.toList))) H) ∨ rNotInD x y H Q), ?_, (OpR.or op_notIn_seq (OpR.or op_notIn_sign (op_notInD hu)))⟩
  intro P G H x y dx dy Q R g rx ry hf hR
  cases ry <;> try (exact False.elim hf)
  · obtain ⟨c, e, b, eb, hf⟩ := hf
    subst e
    cases eb
    cases rx
    exact .inr (.inl ⟨c, _, rfl, rfl, by rw [cpsL]; exact hR _ P G H _ .refl g .bl hf⟩)
  · rename_i p us ys h z r
    obtain ⟨hf1, b, eb, hf⟩ := hf
    cases eb
    refine .inl ⟨p, us, rfl, .inl (SqL.of (g.gx h rfl)), flatV_of rx hf1.1, flatVs_of r hf1.2, ?_⟩
    rw [show (if true = true then !inV x us else inV x us) = !inV x us from rfl, inV_of rx hf1.1 r hf1.2]
    exact hR _ P G H _ .refl g .bl hf
  · rename_i p us ys h z r
    obtain ⟨hf1, b, eb, hf⟩ := hf
    cases eb
    refine .inl ⟨p, us, rfl, .inr (SqT.of (g.gx h rfl)), flatV_of rx hf1.1, flatVs_of r hf1.2, ?_⟩
    rw [show (if true = true then !inV x us else inV x us) = !inV x us from rfl, inV_of rx hf1.1 r hf1.2]
    exact hR _ P G H _ .refl g .bl hf
  · rename_i p kk us vs h hl z nd r
    obtain ⟨hf1, b, eb, hf⟩ := hf
    cases eb
    have q := rep_dget g.gh (Rep.dctK h hl z nd r) rx hf1
    obtain ⟨p', e, q1, q2⟩ := q
    cases e
    refine .inr (.inr ?_)
    cases e : dGet (kk.map keyD) vs dx with
    | none =>
      rw [e] at hf
      exact ⟨p, none, rfl, q2 e, hR _ P G H _ .refl g .bl hf⟩
    | some d =>
      obtain ⟨v, w1, w2⟩ := q1 d e
      rw [e] at hf
      exact ⟨p, some v, rfl, w1, hR _ P G H _ .refl g .bl hf⟩
  · rename_i p kk us vs h hl z nd r
    obtain ⟨hf1, b, eb, hf⟩ := hf
    cases eb
    have q := rep_dget g.gh (Rep.dctT h hl z nd r) rx hf1
    obtain ⟨p', e, q1, q2⟩ := q
    cases e
    refine .inr (.inr ?_)
    cases e : dGet (kk.map fun k => .tup (k.map keyD)) vs dx with
    | none =>
      rw [e] at hf
      exact ⟨p, none, rfl, q2 e, hR _ P G H _ .refl g .bl hf⟩
    | some d =>
      obtain ⟨v, w1, w2⟩ := q1 d e
      rw [e] at hf
      exact ⟨p, some v, rfl, w1, hR _ P G H _ .refl g .bl hf⟩
end
end DL

/-! ## DL5 -/
/-! DL5: tests, and, or, if, types, built-ins -/
namespace DL
open PySem PySem.Spec PyProof.Rows L2
section
variable {κ : Kit} {X : Cx} {a b c e : Expr} {es : List Expr} {fa fb fc f : FE} {far : FA} {pos : Pos} {t1 t2 : FT}

/-! ### tests -/
theorem dt_val (h : DE κ X e f) (he : ∀ whole, isTrue e X.env whole = (do let v ← whole; standAt e.pos; holding [v] (truthy v)) := by intro _; rfl) : DT κ X e (tVal f) := by
  obtain ⟨t, p, q⟩ := h
  refine ⟨_, pt_val p he, fun P G H σ env Q R g ev hf hR => q P G H σ env _ _ g ev hf fun v P' G' H' d gr g' r hq => ?_⟩
  obtain ⟨b, e, hq⟩ := hq
  subst e
  exact ⟨b, rep_bl r, hR b P' G' H' gr g' hq⟩
@[simp] def truD : D → Option Bool
  | .non => some false
  | .bl b => some b
  | .int i => some (i != 0)
  | .str s => some (!s.isEmpty)
  | .lst xs => some (!xs.isEmpty)
  | .tup xs => some (!xs.isEmpty)
  | _ => none
/-- its truth -/
def gTr (d : D) (m : Nat) (Q : Bool → Nat → Prop) : Prop := ∃ b, truD d = some b ∧ Q b m
theorem gTr_of {d : D} {b : Bool} {m : Nat} {Q : Bool → Nat → Prop} (e : truD d = some b) : gTr d m Q = Q b m := by
  refine propext ⟨?_, fun h => ⟨b, e, h⟩⟩
  rintro ⟨c, e', h⟩
  rw [e] at e'; cases e'
  exact h
@[simp] theorem gTr_non {m : Nat} {Q : Bool → Nat → Prop} : gTr .non m Q = Q false m := gTr_of rfl
@[simp] theorem gTr_bl {b : Bool} {m : Nat} {Q : Bool → Nat → Prop} : gTr (.bl b) m Q = Q b m := gTr_of rfl
@[simp] theorem gTr_int {i : Int} {m : Nat} {Q : Bool → Nat → Prop} : gTr (.int i) m Q = Q (i != 0) m := gTr_of rfl
@[simp] theorem gTr_str {s : List Nat} {m : Nat} {Q : Bool → Nat → Prop} : gTr (.str s) m Q = Q (!s.isEmpty) m := gTr_of rfl
@[simp] theorem gTr_lst {s : List D} {m : Nat} {Q : Bool → Nat → Prop} : gTr (.lst s) m Q = Q (!s.isEmpty) m := gTr_of rfl
@[simp] theorem gTr_tup {s : List D} {m : Nat} {Q : Bool → Nat → Prop} : gTr (.tup s) m Q = Q (!s.isEmpty) m := gTr_of rfl
@[simp] def tTru (f : FE) : FT := fun env n Q => f env n fun d m => gTr d m Q
theorem emp_of {G : Hp} {iv : IV} {vs : List V} {ds : List D} (r : Reps κ G iv vs ds) : vs.isEmpty = ds.isEmpty := by cases r <;> rfl
theorem rep_tru {K : PySem.W.Frag} {G H : Hp} {iv : IV} {v : V} {d : D} {b : Bool} (hgh : ∀ a o, G a = some o → At H a o) (r : Rep κ G iv v d) (h : truD d = some b) : TruV K v H b := by
  cases r <;> simp only [truD, Option.some.injEq, reduceCtorEq] at h
  · exact h.symm
  · exact h.symm
  · exact h.symm
  · rename_i s hs
    refine ⟨by rw [str_len]; exact hs.1, ?_⟩
    rw [str_len, ← h]
    cases s with
    | nil => rfl
    | cons c s => show true = (((c :: s).length : Int) != 0); rw [eq_comm, bne_iff_ne]; simp only [List.length_cons]; omega
  · rename_i p us ys h1 z r
    exact .inl ⟨us, SqL.of ((hgh _ _ h1).x rfl), by rw [emp_of r]; exact h.symm⟩
  · rename_i p us ys h1 z r
    exact .inr (.inl ⟨us, SqT.of ((hgh _ _ h1).x rfl), by rw [emp_of r]; exact h.symm⟩)
theorem dt_tru (h : DE κ X e f) (he : ∀ whole, isTrue e X.env whole = (do let v ← whole; standAt e.pos; holding [v] (truthy v)) := by intro _; rfl) : DT κ X e (tTru f) := by
  obtain ⟨t, p, q⟩ := h
  refine ⟨_, pt_truth p he, fun P G H σ env Q R g ev hf hR => q P G H σ env _ _ g ev hf fun v P' G' H' d gr g' r hq => ?_⟩
  obtain ⟨b, e, hq⟩ := hq
  exact ⟨b, rep_tru g'.gh r e, hR b P' G' H' gr g' hq⟩
/-- and, or as tests -/
def DW (κ : Kit) (X : Cx) (e : Expr) (f : FT) : Prop := ∃ t, PW X e t ∧ RdT κ f t
theorem DW.dt (h : DW κ X e t1) : DT κ X e t1 := by
  obtain ⟨t, p, q⟩ := h
  exact ⟨t, p.pt, q⟩
@[simp] def tAndD (a b : FT) : FT := fun env n Q => a env n fun c m => if c = true then b env m Q else Q false m
@[simp] def tOrD (a b : FT) : FT := fun env n Q => a env n fun c m => if c = true then Q true m else b env m Q
@[simp] def tNotD (a : FT) : FT := fun env n Q => a env n fun c m => Q (!c) m
theorem dw_and1 (h : DT κ X a t1) : DW κ X (.BoolOp .And [a] pos) t1 := by
  obtain ⟨t, p, q⟩ := h
  exact ⟨t, pw_and1 p, q⟩
theorem dw_or1 (h : DT κ X a t1) : DW κ X (.BoolOp .Or [a] pos) t1 := by
  obtain ⟨t, p, q⟩ := h
  exact ⟨t, pw_or1 p, q⟩
theorem LkT.grow {P P1 : Wd} {G H G1 H1 : Hp} {Q : Bool → Nat → Prop} {R : Bool → Hp → Prop} (gr : Grow P G H P1 G1 H1) (h : LkT κ P G H Q R) : LkT κ P1 G1 H1 Q R := fun b P' G' H' gr' g' q => h b P' G' H' (gr.trans gr') g' q
theorem dw_and (h1 : DT κ X a t1) (h2 : DW κ X (.BoolOp .And (b :: es) pos) t2) : DW κ X (.BoolOp .And (a :: b :: es) pos) (tAndD t1 t2) := by
  obtain ⟨u1, p1, q1⟩ := h1
  obtain ⟨u2, p2, q2⟩ := h2
  refine ⟨_, pw_and p1 p2, fun P G H σ env Q R g ev hf hR => q1 P G H σ env _ _ g ev hf fun c P' G' H' gr g' hq => ?_⟩
  cases c with
  | true => exact q2 P' G' H' σ env _ _ g' (ev.grow gr) hq (hR.grow gr)
  | false => exact hR false P' G' H' gr g' hq
theorem dw_or (h1 : DT κ X a t1) (h2 : DW κ X (.BoolOp .Or (b :: es) pos) t2) : DW κ X (.BoolOp .Or (a :: b :: es) pos) (tOrD t1 t2) := by
  obtain ⟨u1, p1, q1⟩ := h1
  obtain ⟨u2, p2, q2⟩ := h2
  refine ⟨_, pw_or p1 p2, fun P G H σ env Q R g ev hf hR => q1 P G H σ env _ _ g ev hf fun c P' G' H' gr g' hq => ?_⟩
  cases c with
  | false => exact q2 P' G' H' σ env _ _ g' (ev.grow gr) hq (hR.grow gr)
  | true => exact hR true P' G' H' gr g' hq
theorem dt_not (h1 : DT κ X a t1) : DT κ X (.UnaryOp .Not a pos) (tNotD t1) := by
  obtain ⟨u1, p1, q1⟩ := h1
  exact ⟨_, pt_not p1, fun P G H σ env Q R g ev hf hR => q1 P G H σ env _ _ g ev hf fun c P' G' H' gr g' hq => hR (!c) P' G' H' gr g' hq⟩
/-- and, or, not as values, all but the last True or False -/
@[simp] def fAnd (fa fb : FE) : FE := fun env n Q => fa env n fun x m => gB x m fun c m => if c = true then fb env m Q else Q (.bl false) m
@[simp] def fOr (fa fb : FE) : FE := fun env n Q => fa env n fun x m => gB x m fun c m => if c = true then Q (.bl true) m else fb env m Q
@[simp] def fNot (fa : FE) : FE := fun env n Q => fa env n fun x m => gB x m fun c m => Q (.bl (!c)) m
theorem de_one {op} (h : DE κ X a f) : DE κ X (.BoolOp op [a] pos) f := by
  obtain ⟨t, p, q⟩ := h
  exact ⟨t, pe_one p, q⟩
theorem de_and (ha : DE κ X a fa) (hb : DE κ X (.BoolOp .And (b :: es) pos) fb) : DE κ X (.BoolOp .And (a :: b :: es) pos) (fAnd fa fb) := by
  obtain ⟨u1, p1, q1⟩ := ha
  obtain ⟨u2, p2, q2⟩ := hb
  refine ⟨_, pe_and p1 p2, fun P G H σ env Q R g ev hf hR => q1 P G H σ env _ _ g ev hf fun v P' G' H' d gr g' r hq => ?_⟩
  obtain ⟨c, e, hq⟩ := hq
  subst e
  refine ⟨c, rep_bl r, ?_⟩
  cases c with
  | true => exact q2 P' G' H' σ env _ _ g' (ev.grow gr) hq (hR.grow gr)
  | false => exact hR _ P' G' H' _ gr g' .bl hq
theorem de_or (ha : DE κ X a fa) (hb : DE κ X (.BoolOp .Or (b :: es) pos) fb) : DE κ X (.BoolOp .Or (a :: b :: es) pos) (fOr fa fb) := by
  obtain ⟨u1, p1, q1⟩ := ha
  obtain ⟨u2, p2, q2⟩ := hb
  refine ⟨_, pe_or p1 p2, fun P G H σ env Q R g ev hf hR => q1 P G H σ env _ _ g ev hf fun v P' G' H' d gr g' r hq => ?_⟩
  obtain ⟨c, e, hq⟩ := hq
  subst e
  refine ⟨c, rep_bl r, ?_⟩
  cases c with
  | false => exact q2 P' G' H' σ env _ _ g' (ev.grow gr) hq (hR.grow gr)
  | true => exact hR _ P' G' H' _ gr g' .bl hq
theorem de_not (ha : DE κ X a fa) : DE κ X (.UnaryOp .Not a pos) (fNot fa) := by
  obtain ⟨u1, p1, q1⟩ := ha
  refine ⟨_, pe_not p1, fun P G H σ env Q R g ev hf hR => q1 P G H σ env _ _ g ev hf fun v P' G' H' d gr g' r hq => ?_⟩
  obtain ⟨c, e, hq⟩ := hq
  subst e
  exact ⟨c, rep_bl r, hR _ P' G' H' _ gr g' .bl hq⟩
@[simp] def fIf (t : FT) (fa fb : FE) : FE := fun env n Q => t env n fun c m => if c = true then fa env m Q else fb env m Q
theorem de_if (hc : DT κ X c t1) (ha : DE κ X a fa) (hb : DE κ X b fb) : DE κ X (.IfExp c a b pos) (fIf t1 fa fb) := by
  obtain ⟨u0, p0, q0⟩ := hc
  obtain ⟨u1, p1, q1⟩ := ha
  obtain ⟨u2, p2, q2⟩ := hb
  refine ⟨_, pe_ifExp p0 p1 p2, fun P G H σ env Q R g ev hf hR => q0 P G H σ env _ _ g ev hf fun c P' G' H' gr g' hq => ?_⟩
  cases c with
  | true => exact q1 P' G' H' σ env _ _ g' (ev.grow gr) hq (hR.grow gr)
  | false => exact q2 P' G' H' σ env _ _ g' (ev.grow gr) hq (hR.grow gr)

/-! ### isinstance of built-in types -/
inductive Ty where | int | str | bool | list | tuple | dict
  deriving DecidableEq
def Ty.nm : Ty → String
  | .int => "int" | .str => "str" | .bool => "bool" | .list => "list" | .tuple => "tuple" | .dict => "dict"
def tyNm : D → Option String
  | .non => some "NoneType" | .bl _ => some "bool" | .int _ => some "int" | .str _ => some "str" | .lst _ => some "list" | .tup _ => some "tuple" | .dct _ _ => some "dict"
  | _ => none
@[simp] def isiD : Ty → D → Bool
  | .int, .int _ => true | .int, .bl _ => true | .str, .str _ => true | .bool, .bl _ => true | .list, .lst _ => true | .tuple, .tup _ => true | .dict, .dct _ _ => true
  | _, _ => false
@[simp] def hasTy : D → Bool
  | .obj _ _ => false | .dcu _ _ => false | .box _ _ => false | .scr _ => false | _ => true
theorem kit_isi (K : PySem.W.Frag) (T : Ty) (d : D) (h : hasTy d = true) : ∃ s, tyNm d = some s ∧ PySem.W.kitOne K (.type s) (.type T.nm) = some (isiD T d) := by
  cases d <;> try (simp [hasTy] at h)
  all_goals (refine ⟨_, rfl, kit_ty ?_⟩; cases T <;> (dsimp only [isiD, Ty.nm]; decide +kernel))
theorem rep_tyx {K : PySem.W.Frag} {G H : Hp} {iv : IV} {v : V} {d : D} {s : String} (hgh : ∀ a o, G a = some o → At H a o) (r : Rep κ G iv v d) (h : tyNm d = some s) : TyX K H v (.type s) := by
  cases r <;> simp only [tyNm, Option.some.injEq, reduceCtorEq] at h <;> subst h
  · exact .base .non
  · exact .base (.bl _)
  · exact .base (.int _)
  · exact .base (.str _)
  · rename_i h1 _ _; exact .base (.lst ((hgh _ _ h1).x rfl))
  · rename_i h1 _ _; exact .base (.tup ((hgh _ _ h1).x rfl))
  · rename_i h1 _ _ _ _
    rcases hgh _ _ h1 with q | ⟨_, od, q⟩
    · exact .base (.dK q)
    · exact .fDict q
@[simp] def fIsi (T : Ty) (f : FE) : FE := fun env n Q => f env n fun d m => hasTy d = true ∧ Q (.bl (isiD T d)) m
theorem de_isi (T : Ty) {p p2 : Pos} {y : Str} (ha : DE κ X a f) (hg : Gl X "isinstance") (hm : X.mg "isinstance" = none) (hgT : Gl X y) (hmT : X.mg y = none) (hy : y = Str.ofString T.nm)
    (he : starEach [a, .Name y p2] X.env = (false, eval a X.env) :: starEach [.Name y p2] X.env := by rfl) (he2 : starEach [.Name y p2] X.env = (false, eval (.Name y p2) X.env) :: starEach [] X.env := by rfl) (hpl : (backTo pos (starEach [.Name y p2] X.env)).any (·.1) = false := by rfl) :
    DE κ X (.Call (.Name "isinstance" p) [a, .Name y p2] [] pos) (fIsi T f) := by
  obtain ⟨t, pa, q⟩ := ha
  have hT : PE X (.Name y p2) (tC (.ty T.nm)) := by
    subst hy
    cases T <;> exact pe_bltn hgT hmT (u := .type _) (by decide +kernel) rfl
  refine ⟨_, pe_callB call_isi hg hm boot_isinstance (pa_cons pa (pa_cons hT pa_nil he2) he) (by decide) (by decide) he hpl, fun P G H σ env Q R g ev hf hR => q P G H σ env _ _ g ev hf fun v P' G' H' d gr g' r hq => ?_⟩
  obtain ⟨s, h1, h2⟩ := kit_isi X.K T d hq.1
  exact ⟨v, .ty T.nm, .type s, .type T.nm, isiD T d, rfl, .ty _, rep_tyx g'.gh r h1, h2, hR _ P' G' H' _ gr g' .bl hq.2⟩
/-- the names of built-in types, as arguments -/
structure DTys (X : Cx) (es : List Expr) (Ts : List Ty) : Prop where
  pa : PA X es (fun _ H Q => Q (Ts.map fun T => V.ty T.nm) H)
theorem dtys_nil : DTys X [] [] := ⟨pa_nil⟩
theorem dtys_cons (T : Ty) {Ts : List Ty} {p2 : Pos} {y : Str} (r : DTys X es Ts) (hgT : Gl X y) (hmT : X.mg y = none) (hy : y = Str.ofString T.nm) (he2 : starEach (.Name y p2 :: es) X.env = (false, eval (.Name y p2) X.env) :: starEach es X.env := by rfl) : DTys X (.Name y p2 :: es) (T :: Ts) := by
  have hT : PE X (.Name y p2) (tC (.ty T.nm)) := by
    subst hy
    cases T <;> exact pe_bltn hgT hmT (u := .type _) (by decide +kernel) rfl
  exact ⟨pa_cons hT r.pa he2⟩
@[simp] def fIsiT (Ts : List Ty) (f : FE) : FE := fun env n Q => f env n fun d m => hasTy d = true ∧ Q (.bl (Ts.any fun T => isiD T d)) m
theorem kitAny_tys (K : PySem.W.Frag) {s : String} {d : D} (hd : hasTy d = true) (hs : tyNm d = some s) : ∀ Ts : List Ty, PySem.W.kitAny K (.type s) (Ts.map fun T => Value.type T.nm) = some (Ts.any fun T => isiD T d)
  | [] => kitAny_nil
  | T :: Ts => by
    obtain ⟨s', h1, h2⟩ := kit_isi K T d hd
    rw [hs] at h1
    cases h1
    refine kitAny_cons h2 (fun hb => ?_) (fun hb => ?_)
    · rw [kitAny_tys K hd hs Ts, List.any_cons, hb]; rfl
    · rw [List.any_cons, hb]; rfl
theorem de_isiT (Ts : List Ty) {p p2 : Pos} {x1} (hz : Ts.length ≤ 100) (ha : DE κ X a f) (hTs : DTys X es Ts) (hg : Gl X "isinstance") (hm : X.mg "isinstance" = none)
    (he : starEach [a, .Tuple es x1 p2] X.env = (false, eval a X.env) :: starEach [.Tuple es x1 p2] X.env := by rfl) (he2 : starEach [.Tuple es x1 p2] X.env = (false, eval (.Tuple es x1 p2) X.env) :: starEach [] X.env := by rfl) (hpl : (backTo pos (starEach [.Tuple es x1 p2] X.env)).any (·.1) = false := by rfl) :
    DE κ X (.Call (.Name "isinstance" p) [a, .Tuple es x1 p2] [] pos) (fIsiT Ts f) := by
  obtain ⟨t, pa, q⟩ := ha
  refine ⟨_, pe_callB call_isiT hg hm boot_isinstance (pa_cons pa (pa_cons (pe_tup hTs.pa) pa_nil he2) he) (by decide) (by decide) he hpl, fun P G H σ env Q R g ev hf hR => q P G H σ env _ _ g ev hf fun v P' G' H' d gr g' r hq => ?_⟩
  refine ⟨?_, fun tp htp => ?_⟩
  · rw [List.length_map]; exact Nat.le_trans hz (by decide)
  · cases hn : tyNm d with
    | none => cases d <;> simp [tyNm, hasTy] at hn hq
    | some s =>
      refine ⟨v, tp, _, .type s, Ts.map fun T => Value.type T.nm, _, rfl, upd_same, ?_, ?_, kitAny_tys X.K hq.1 hn Ts, hR _ P' G' _ _ (gr.trans (Grow.new htp)) (g'.new htp) .bl hq.2⟩
      · have : ∀ Ts : List Ty, Paired ClsV (Ts.map fun T => V.ty T.nm) (Ts.map fun T => Value.type T.nm) := fun Ts => by
          induction Ts with
          | nil => exact .nil
          | cons T Ts ih => exact .cons (.ty _) ih
        exact this Ts
      · exact rep_tyx (fun b o h => (g'.new htp).gh b o h) r hn
end
end DL

/-! ## DL6 -/
/-! DL6: built-ins by name, subscripts, slices, methods of texts -/
namespace DL
open PySem PySem.Spec PyProof.Rows L2
theorem val1 {κ : Kit} {G : Hp} {iv : IV} {vs : List V} {d : D} (r : Reps κ G iv vs [d]) : ∃ v, vs = [v] ∧ Rep κ G iv v d := by
  cases r with | cons r t => cases t; exact ⟨_, rfl, r⟩
theorem val2 {κ : Kit} {G : Hp} {iv : IV} {vs : List V} {d e : D} (r : Reps κ G iv vs [d, e]) : ∃ v u, vs = [v, u] ∧ Rep κ G iv v d ∧ Rep κ G iv u e := by
  cases r with | cons r t => cases t with | cons r2 t => cases t; exact ⟨_, _, rfl, r, r2⟩
theorem vals_at : ∀ {vs : List V} {us : List Value}, vs.length = us.length → (∀ (j : Nat) (y : V) (u : Value), vs[j]? = some y → us[j]? = some u → RelV y u) → Vals vs us
  | [], [], _, _ => .nil
  | [], _ :: _, h, _ => by simp at h
  | _ :: _, [], h, _ => by simp at h
  | v :: vs, u :: us, h, f => .cons (f 0 v u rfl rfl) (vals_at (by simpa using h) fun j y w h1 h2 => f (j + 1) y w (by simpa using h1) (by simpa using h2))
section
variable {κ : Kit} {X : Cx} {a b c e : Expr} {es : List Expr} {fa fb fc f : FE} {far : FA} {pos : Pos} {t1 t2 : FT}

/-! ### len -/
@[simp] def lenD : D → Option Nat
  | .str s => some s.length | .lst xs => some xs.length | .tup xs => some xs.length | .dct ks _ => some ks.length | .scr ns => some ns.length | _ => none
def gLen (ds : List D) (n : Nat) (Q : D → Nat → Prop) : Prop := match ds with
  | [.str s] => Q (.int s.length) n
  | [.lst s] => Q (.int s.length) n
  | [.tup s] => Q (.int s.length) n
  | [.dct s _] => Q (.int s.length) n
  | [.scr s] => Q (.int s.length) n
  | _ => False
theorem rep1 {G : Hp} {iv : IV} {vs : List V} {ds : List D} (r : Reps κ G iv vs ds) : vs.length = ds.length := r.length
theorem call_lenR : CallR X (.builtin "len") (fun xs H Q => ∃ a kvs, xs = [V.ref a] ∧ Rd H a (.dK kvs) ∧ Q (.int kvs.length) H) := by
  intro pins s σ H xs us Q I r h
  obtain ⟨a, kvs, rfl, ha, q⟩ := h
  obtain ⟨u, rfl, ru⟩ := vals1 r
  cases ru
  exact d_len I ha fun t s' I' => ⟨.int kvs.length, H, I', ⟨t, rfl⟩, q⟩
theorem de_len {x : Str} {p : Pos} (hK : κ.K = X.K) (hx : x = "len") (hg : Gl X x) (hm : X.mg x = none) (ha : DA κ X (e :: es) far)
    (he : starEach (e :: es) X.env = (false, eval e X.env) :: starEach es X.env := by rfl) (hpl : (backTo pos (starEach es X.env)).any (·.1) = false := by rfl) : DE κ X (.Call (.Name x p) (e :: es) [] pos) (fCl gLen far) := by
  subst hx
  refine de_callB ?_ (CallR.or call_len_seq (CallR.or call_len_str call_lenR)) hg hm boot_len ha (by decide) (by decide) he hpl
  intro P G H vs ds Q R g r hf hR
  unfold gLen at hf
  split at hf
  · obtain ⟨v, rfl, rv⟩ := val1 r
    cases rv with
    | str h => exact .inr (.inl ⟨_, rfl, by rw [str_len]; exact h.1, by rw [str_len]; exact hR _ P G H _ .refl g .int hf⟩)
  · obtain ⟨v, rfl, rv⟩ := val1 r
    cases rv with
    | lst h z r => exact .inl ⟨_, _, rfl, .inl (SqL.of (g.gx h rfl)), by rw [r.length]; exact hR _ P G H _ .refl g .int hf⟩
  · obtain ⟨v, rfl, rv⟩ := val1 r
    cases rv with
    | tup h z r => exact .inl ⟨_, _, rfl, .inr (SqT.of (g.gx h rfl)), by rw [r.length]; exact hR _ P G H _ .refl g .int hf⟩
  · obtain ⟨v, rfl, rv⟩ := val1 r
    cases rv with
    | dctK h hl z nd r => exact .inr (.inr ⟨_, _, rfl, (g.gh _ _ h).rd, by
        rw [List.length_map] at hf
        rw [List.length_zip, ← hl, Nat.min_self]; exact hR _ P G H _ .refl g .int hf⟩)
  · obtain ⟨v, rfl, rv⟩ := val1 r
    cases rv with
    | scr h z => exact .inl ⟨_, _, rfl, .inl (by rw [← hK]; exact sql_at g.gh h), by rw [List.length_map]; exact hR _ P G H _ .refl g .int hf⟩
  · exact hf.elim

/-! ### all, any, sum, min, max -/
@[simp] def gAll (ds : List D) (n : Nat) (Q : D → Nat → Prop) : Prop := ∃ bs : List Bool, ds = [.lst (bs.map D.bl)] ∧ Q (.bl (bs.all id)) n
@[simp] def gAny (ds : List D) (n : Nat) (Q : D → Nat → Prop) : Prop := ∃ bs : List Bool, ds = [.lst (bs.map D.bl)] ∧ Q (.bl (bs.any id)) n
@[simp] def gSum (ds : List D) (n : Nat) (Q : D → Nat → Prop) : Prop := ∃ ns : List Int, ds = [.lst (ns.map D.int)] ∧ Q (.int ns.sum) n
def gMin (ds : List D) (n : Nat) (Q : D → Nat → Prop) : Prop := match ds with
  | [.int i, .int j] => Q (.int (min i j)) n
  | _ => ∃ ns : List Int, ds = [.lst (ns.map D.int)] ∧ ns ≠ [] ∧ ∀ m, m ∈ ns → (∀ y ∈ ns, m ≤ y) → Q (.int m) n
def gMax (ds : List D) (n : Nat) (Q : D → Nat → Prop) : Prop := match ds with
  | [.int i, .int j] => Q (.int (max i j)) n
  | _ => ∃ ns : List Int, ds = [.lst (ns.map D.int)] ∧ ns ≠ [] ∧ ∀ m, m ∈ ns → (∀ y ∈ ns, y ≤ m) → Q (.int m) n
theorem de_all {x : Str} {p : Pos} (hc : X.calm = true) (hx : x = "all") (hg : Gl X x) (hm : X.mg x = none) (ha : DA κ X (e :: es) far)
    (he : starEach (e :: es) X.env = (false, eval e X.env) :: starEach es X.env := by rfl) (hpl : (backTo pos (starEach es X.env)).any (·.1) = false := by rfl) : DE κ X (.Call (.Name x p) (e :: es) [] pos) (fCl gAll far) := by
  subst hx
  refine de_callB ?_ (cr_all hc) hg hm (by decide +kernel) ha (by decide) (by decide) he hpl
  intro P G H vs ds Q R g r hf hR
  obtain ⟨bs, rfl, hf⟩ := hf
  obtain ⟨v, rfl, rv⟩ := val1 r
  cases rv with
  | lst h z r => rw [r.of_bls] at h; exact ⟨_, bs, rfl, SqL.of (g.gx h rfl), hR _ P G H _ .refl g .bl hf⟩
theorem de_any {x : Str} {p : Pos} (hc : X.calm = true) (hx : x = "any") (hg : Gl X x) (hm : X.mg x = none) (ha : DA κ X (e :: es) far)
    (he : starEach (e :: es) X.env = (false, eval e X.env) :: starEach es X.env := by rfl) (hpl : (backTo pos (starEach es X.env)).any (·.1) = false := by rfl) : DE κ X (.Call (.Name x p) (e :: es) [] pos) (fCl gAny far) := by
  subst hx
  refine de_callB ?_ (cr_any hc) hg hm (by decide +kernel) ha (by decide) (by decide) he hpl
  intro P G H vs ds Q R g r hf hR
  obtain ⟨bs, rfl, hf⟩ := hf
  obtain ⟨v, rfl, rv⟩ := val1 r
  cases rv with
  | lst h z r => rw [r.of_bls] at h; exact ⟨_, bs, rfl, SqL.of (g.gx h rfl), hR _ P G H _ .refl g .bl hf⟩
theorem de_sum {x : Str} {p : Pos} (hc : X.calm = true) (hx : x = "sum") (hg : Gl X x) (hm : X.mg x = none) (ha : DA κ X (e :: es) far)
    (he : starEach (e :: es) X.env = (false, eval e X.env) :: starEach es X.env := by rfl) (hpl : (backTo pos (starEach es X.env)).any (·.1) = false := by rfl) : DE κ X (.Call (.Name x p) (e :: es) [] pos) (fCl gSum far) := by
  subst hx
  refine de_callB ?_ (cr_sum hc) hg hm (by decide +kernel) ha (by decide) (by decide) he hpl
  intro P G H vs ds Q R g r hf hR
  obtain ⟨bs, rfl, hf⟩ := hf
  obtain ⟨v, rfl, rv⟩ := val1 r
  cases rv with
  | lst h z r => rw [r.of_ints] at h; exact ⟨_, bs, rfl, SqL.of (g.gx h rfl), hR _ P G H _ .refl g .int hf⟩
theorem de_min {x : Str} {p : Pos} (hc : X.calm = true) (hx : x = "min") (hg : Gl X x) (hm : X.mg x = none) (ha : DA κ X (e :: es) far)
    (he : starEach (e :: es) X.env = (false, eval e X.env) :: starEach es X.env := by rfl) (hpl : (backTo pos (starEach es X.env)).any (·.1) = false := by rfl) : DE κ X (.Call (.Name x p) (e :: es) [] pos) (fCl gMin far) := by
  subst hx
  refine de_callB ?_ (CallR.or (call_min2 hc) (cr_min hc)) hg hm (by decide +kernel) ha (by decide) (by decide) he hpl
  intro P G H vs ds Q R g r hf hR
  unfold gMin at hf
  split at hf
  · obtain ⟨v, u, rfl, r1, r2⟩ := val2 r
    cases r1; cases r2
    rename_i i j
    have e : (if j < i then j else i) = min i j := by rw [Int.min_def]; split <;> split <;> omega
    exact .inl ⟨_, _, rfl, by rw [e]; exact hR _ P G H _ .refl g .int hf⟩
  · obtain ⟨ns, rfl, hne, hf⟩ := hf
    obtain ⟨v, rfl, rv⟩ := val1 r
    cases rv with
    | lst h z r => rw [r.of_ints] at h; exact .inr ⟨_, ns, rfl, SqL.of (g.gx h rfl), List.length_pos_iff.mpr hne, fun m h1 h2 => hR _ P G H _ .refl g .int (hf m h1 h2)⟩
theorem de_max {x : Str} {p : Pos} (hc : X.calm = true) (hx : x = "max") (hg : Gl X x) (hm : X.mg x = none) (ha : DA κ X (e :: es) far)
    (he : starEach (e :: es) X.env = (false, eval e X.env) :: starEach es X.env := by rfl) (hpl : (backTo pos (starEach es X.env)).any (·.1) = false := by rfl) : DE κ X (.Call (.Name x p) (e :: es) [] pos) (fCl gMax far) := by
  subst hx
  refine de_callB ?_ (CallR.or (call_max2 hc) (cr_max hc)) hg hm (by decide +kernel) ha (by decide) (by decide) he hpl
  intro P G H vs ds Q R g r hf hR
  unfold gMax at hf
  split at hf
  · obtain ⟨v, u, rfl, r1, r2⟩ := val2 r
    cases r1; cases r2
    rename_i i j
    have e : (if j > i then j else i) = max i j := by rw [Int.max_def]; split <;> split <;> omega
    exact .inl ⟨_, _, rfl, by rw [e]; exact hR _ P G H _ .refl g .int hf⟩
  · obtain ⟨ns, rfl, hne, hf⟩ := hf
    obtain ⟨v, rfl, rv⟩ := val1 r
    cases rv with
    | lst h z r => rw [r.of_ints] at h; exact .inr ⟨_, ns, rfl, SqL.of (g.gx h rfl), List.length_pos_iff.mpr hne, fun m h1 h2 => hR _ P G H _ .refl g .int (hf m h1 h2)⟩

/-! ### abs, int -/
def gAbs (ds : List D) (n : Nat) (Q : D → Nat → Prop) : Prop := match ds with
  | [.int i] => Q (.int (i.natAbs : Int)) n
  | _ => False
theorem de_abs {x : Str} {p : Pos} (hx : x = "abs") (hg : Gl X x) (hm : X.mg x = none) (ha : DA κ X (e :: es) far)
    (he : starEach (e :: es) X.env = (false, eval e X.env) :: starEach es X.env := by rfl) (hpl : (backTo pos (starEach es X.env)).any (·.1) = false := by rfl) : DE κ X (.Call (.Name x p) (e :: es) [] pos) (fCl gAbs far) := by
  subst hx
  refine de_callB ?_ call_abs hg hm (by decide +kernel) ha (by decide) (by decide) he hpl
  intro P G H vs ds Q R g r hf hR
  unfold gAbs at hf
  split at hf
  · obtain ⟨v, rfl, rv⟩ := val1 r
    cases rv
    rename_i i
    have e : (if i < 0 then -i else i) = (i.natAbs : Int) := by split <;> omega
    exact ⟨_, rfl, by rw [e]; exact hR _ P G H _ .refl g .int hf⟩
  · exact hf.elim
def gInt (ds : List D) (n : Nat) (Q : D → Nat → Prop) : Prop := match ds with
  | [.int i] => Q (.int i) n
  | [.bl b] => Q (.int (if b then 1 else 0)) n
  | _ => False
theorem de_intc {x : Str} {p : Pos} (hx : x = "int") (hg : Gl X x) (hm : X.mg x = none) (ha : DA κ X (e :: es) far)
    (he : starEach (e :: es) X.env = (false, eval e X.env) :: starEach es X.env := by rfl) (hpl : (backTo pos (starEach es X.env)).any (·.1) = false := by rfl) : DE κ X (.Call (.Name x p) (e :: es) [] pos) (fCl gInt far) := by
  subst hx
  refine de_callTy ?_ call_int1 hg hm (by decide +kernel) ha (by decide) (by decide) he hpl
  intro P G H vs ds Q R g r hf hR
  unfold gInt at hf
  split at hf
  · obtain ⟨v, rfl, rv⟩ := val1 r
    cases rv
    exact .inl ⟨_, rfl, hR _ P G H _ .refl g .int hf⟩
  · obtain ⟨v, rfl, rv⟩ := val1 r
    cases rv
    exact .inr ⟨_, rfl, hR _ P G H _ .refl g .int hf⟩
  · exact hf.elim

/-! ### list(..) -/
theorem call_listS (hc : X.calm = true) : CallR X (.type "list") (fun xs H Q => ∃ z : Str, xs = [.str z] ∧ z.length ≤ sizeLine ∧ ∀ l, H l = none → Q (.ref l) (upd H l (.lst (z.cps.toList.map fun c => V.str ⟨#[c]⟩)))) := by
  intro pins s σ H xs us Q I r h
  obtain ⟨z, rfl, hz, q⟩ := h
  obtain ⟨u, rfl, rx⟩ := vals1 r
  obtain ⟨t, rfl⟩ := rx
  refine call_list_str (I.ok.hd hc) z t (fun h' tk acc' c' kp e hit => ?_) hz
  have hv : Vals (z.cps.toList.map fun c => V.str ⟨#[c]⟩) acc'.toList := by
    refine vals_at (by rw [List.length_map, Array.length_toList, Array.length_toList]; exact hit.1.symm) fun j y v hy hv => ?_
    rw [Array.getElem?_toList] at hv
    obtain ⟨c, u, hcu, ev⟩ := hit.2 j v hv
    rw [List.getElem?_map, Array.getElem?_toList, hcu] at hy
    simp only [Option.map_some, Option.some.injEq] at hy
    rw [← hy]
    exact ⟨u, ev⟩
  exact ⟨.ref s.heap.objs.size, _, I.laid (t' := tk) kp (Nat.le_refl _) (show ObjOk X.prog X.w _ h' _ (.lst (z.cps.toList.map fun c => V.str ⟨#[c]⟩)) from ⟨by rw [List.length_map, Array.length_toList]; exact hz, acc'.toList, c', hv, by simpa using e⟩), rfl, q _ (I.hok.fresh (Nat.le_refl _))⟩
end
end DL

/-! ## DL7 -/
/-! DL7: list(..), sorted, subscripts, slices, methods of texts -/
namespace DL
open PySem PySem.Spec PyProof.Rows L2
section
variable {κ : Kit} {X : Cx} {a b c e o : Expr} {es : List Expr} {fa fb fc f : FE} {far : FA} {pos : Pos} {t1 t2 : FT}
theorem reps_signs {G : Hp} {iv : IV} : ∀ {s : List Nat}, (∀ c ∈ s, c < 1114112) → Reps κ G iv (s.map fun c => V.str ⟨#[c]⟩) (s.map fun c => D.str [c])
  | [], _ => .nil
  | c :: s, h => .cons (.str ⟨by show 1 ≤ sizeLine; decide, fun d hd => by rw [List.mem_singleton.mp hd]; exact h c (List.mem_cons_self ..)⟩) (reps_signs fun d hd => h d (List.mem_cons_of_mem _ hd))
/-- list(x): a text's signs, a copy -/
def oList (ds : List D) (n : Nat) (Q : List D → Nat → Prop) : Prop := match ds with
  | [.str s] => Q (s.map fun c => .str [c]) n
  | [.lst xs] => Q xs n
  | [.tup xs] => Q xs n
  | _ => False
theorem do_list {x : Str} {p : Pos} (hc : X.calm = true) (hx : x = "list") (hg : Gl X x) (hm : X.mg x = none) (ha : DA κ X (e :: es) far)
    (he : starEach (e :: es) X.env = (false, eval e X.env) :: starEach es X.env := by rfl) (hpl : (backTo pos (starEach es X.env)).any (·.1) = false := by rfl) : DO κ X (.Call (.Name x p) (e :: es) [] pos) (oCl oList far) := by
  subst hx
  refine do_callTy ?_ (CallR.or (call_listS hc) call_list_of) hg hm (by decide +kernel) ha (by decide) (by decide) he hpl
  intro P G H vs ds Q R g r hf hR
  unfold oList at hf
  split at hf
  · obtain ⟨v, rfl, rv⟩ := val1 r
    cases rv with
    | str h =>
      refine .inl ⟨_, rfl, by rw [str_len]; exact h.1, fun l hl => ?_⟩
      rw [cpsL]
      exact hR l P G _ _ _ (Grow.new hl) (g.new hl) hl (g.gnone hl) (g.inone hl) upd_same (by rw [List.length_map]; exact h.1) (reps_signs h.2) hf
  · obtain ⟨v, rfl, rv⟩ := val1 r
    cases rv with
    | lst h z r => exact .inr ⟨_, _, rfl, .inl (SqL.of (g.gx h rfl)), fun l hl => hR l P G _ _ _ (Grow.new hl) (g.new hl) hl (g.gnone hl) (g.inone hl) upd_same z r hf⟩
  · obtain ⟨v, rfl, rv⟩ := val1 r
    cases rv with
    | tup h z r => exact .inr ⟨_, _, rfl, .inr (SqT.of (g.gx h rfl)), fun l hl => hR l P G _ _ _ (Grow.new hl) (g.new hl) hl (g.gnone hl) (g.inone hl) upd_same z r hf⟩
  · exact hf.elim
/-- tuple(xs), a new tuple -/
def gTuple (ds : List D) (n : Nat) (Q : D → Nat → Prop) : Prop := match ds with
  | [.lst xs] => Q (.tup xs) n
  | [.tup xs] => Q (.tup xs) n
  | _ => False
theorem de_tuple {x : Str} {p : Pos} (hx : x = "tuple") (hg : Gl X x) (hm : X.mg x = none) (ha : DA κ X (e :: es) far)
    (he : starEach (e :: es) X.env = (false, eval e X.env) :: starEach es X.env := by rfl) (hpl : (backTo pos (starEach es X.env)).any (·.1) = false := by rfl) : DE κ X (.Call (.Name x p) (e :: es) [] pos) (fCl gTuple far) := by
  subst hx
  refine de_callTy ?_ call_tuple_of hg hm (by decide +kernel) ha (by decide) (by decide) he hpl
  intro P G H vs ds Q R g r hf hR
  unfold gTuple at hf
  split at hf
  · obtain ⟨v, rfl, rv⟩ := val1 r
    cases rv with
    | lst h z r => exact ⟨_, _, rfl, .inl ⟨SqL.of (g.gx h rfl), fun l hl => hR _ P (upd G l (.tup _)) _ _ ((Grow.new hl).frz hl (g.gnone hl)) ((g.new hl).frz (g.gnone hl) (g.inone hl) upd_same) (.tup upd_same z (reps_frz (g.gnone hl) r)) hf⟩⟩
  · obtain ⟨v, rfl, rv⟩ := val1 r
    cases rv with
    | tup h z r => exact ⟨_, _, rfl, .inr ⟨SqT.of (g.gx h rfl), hR _ P G H _ .refl g (.tup h z r) hf⟩⟩
  · exact hf.elim

/-! ### sorted -/
/-- sorted(xs): texts or ints, below 64 -/
@[simp] def oSorted (ds : List D) (n : Nat) (Q : List D → Nat → Prop) : Prop :=
  (∃ ss : List (List Nat), ds = [.lst (ss.map D.str)] ∧ ss.length < 64 ∧ ∀ ts : List (List Nat), ts.Perm ss → sortedS (ts.map fun s => (⟨s.toArray⟩ : Str)) = true → Q (ts.map D.str) n) ∨
  (∃ ns : List Int, ds = [.lst (ns.map D.int)] ∧ ns.length < 64 ∧ ∀ ms : List Int, ms.Perm ns → ms.Pairwise (· ≤ ·) → Q (ms.map D.int) n)
theorem reps_strs {G : Hp} {iv : IV} : ∀ {ss : List (List Nat)}, (∀ s ∈ ss, OkS s) → Reps κ G iv (ss.map fun s => V.str ⟨s.toArray⟩) (ss.map D.str)
  | [], _ => .nil
  | s :: ss, h => .cons (.str (h s (List.mem_cons_self ..))) (reps_strs fun t ht => h t (List.mem_cons_of_mem _ ht))
theorem do_sorted {x : Str} {p : Pos} (hx : x = "sorted") (hg : Gl X x) (hm : X.mg x = none) (ha : DA κ X (e :: es) far)
    (he : starEach (e :: es) X.env = (false, eval e X.env) :: starEach es X.env := by rfl) (hpl : (backTo pos (starEach es X.env)).any (·.1) = false := by rfl) : DO κ X (.Call (.Name x p) (e :: es) [] pos) (oCl oSorted far) := by
  subst hx
  refine do_callB ?_ (CallR.or cr_sortedS cr_sorted) hg hm (by decide +kernel) ha (by decide) (by decide) he hpl
  intro P G H vs ds Q R g r hf hR
  rcases hf with ⟨ss, rfl, hz, hf⟩ | ⟨ns, rfl, hz, hf⟩
  · obtain ⟨v, rfl, rv⟩ := val1 r
    cases rv with
    | lst h z r =>
      obtain ⟨e1, e2⟩ := r.of_strs
      subst e1
      refine .inl ⟨_, _, rfl, SqL.of (g.gx h rfl), by rw [List.length_map]; exact hz, fun ys p hp hs hn => ?_⟩
      -- the texts that come back
      obtain ⟨ts, et, ht⟩ : ∃ ts : List (List Nat), ys = ts.map (fun s => (⟨s.toArray⟩ : Str)) ∧ ts.Perm ss := by
        refine ⟨ys.map fun y => y.cps.toList, ?_, ?_⟩
        · rw [List.map_map]
          have : ((fun s : List Nat => (⟨s.toArray⟩ : Str)) ∘ fun y : Str => y.cps.toList) = id := by funext y; cases y; simp
          rw [this, List.map_id]
        · have h1 := hp.map (fun y : Str => y.cps.toList)
          rw [List.map_map] at h1
          have : ((fun y : Str => y.cps.toList) ∘ fun s : List Nat => (⟨s.toArray⟩ : Str)) = id := by funext y; simp
          rw [this, List.map_id] at h1
          exact h1
      subst et
      rw [List.map_map]
      exact hR p P G _ _ _ (Grow.new hn) (g.new hn) hn (g.gnone hn) (g.inone hn) upd_same (by rw [List.length_map, ht.length_eq]; exact small64 hz) (reps_strs fun s hs' => e2 s (ht.mem_iff.mp hs')) (hf ts ht hs)
  · obtain ⟨v, rfl, rv⟩ := val1 r
    cases rv with
    | lst h z r =>
      rw [r.of_ints] at h
      refine .inr ⟨_, ns, rfl, SqL.of (g.gx h rfl), hz, fun ms p hp hs hn => ?_⟩
      exact hR p P G _ _ _ (Grow.new hn) (g.new hn) hn (g.gnone hn) (g.inone hn) upd_same (by rw [List.length_map, hp.length_eq]; exact small64 hz) Reps.ints (hf ms hp hs)

/-! ### subscripts -/
abbrev rIxD : R2 := fun x y H Q => ∃ a v, x = .ref a ∧ DGet H a y (some v) ∧ Q v H
theorem ix_dict (hu : X.A.units + 1 < cLine) : IxR X rIxD := by
  intro value slice pins s σ H x y v u Q I rx ry h hs
  obtain ⟨p, z, rfl, hg, q⟩ := h
  obtain rfl : v = Value.ref p := rx
  exact PyProof.Rows.tail_any (dict_typeIs I hg) PySem.F.slot_dict_getitem.lookup (d_getItem hu I hg ry fun w' s3 I3 rw' => ⟨z, H, I3, rw', q⟩) hs
/-- x[y]: a list, a tuple, a text by an int; a dict by a key that is there -/
def gIx (x y : D) (n : Nat) (Q : D → Nat → Prop) : Prop := match x, y with
  | .lst xs, .int i => ∃ v, atI xs i = some v ∧ Q v n
  | .tup xs, .int i => ∃ v, atI xs i = some v ∧ Q v n
  | .str s, .int i => ∃ c, atI s i = some c ∧ Q (.str [c]) n
  | .dct ks vs, k => isKeyD k = true ∧ ∃ v, dGet ks vs k = some v ∧ Q v n
  | .dcu ks vs, k => dKind (.dcu ks vs) k = true ∧ ∃ v, dGet ks vs k = some v ∧ Q v n
  | _, _ => False
theorem ixN_len {n i k} (h : ixN n i = some k) : k < n := by
  unfold ixN at h
  split at h
  · split at h
    · cases h; omega
    · cases h
  · split at h
    · cases h; omega
    · cases h
theorem atI_reps {G : Hp} {iv : IV} {vs : List V} {ds : List D} {i : Int} {d : D} (r : Reps κ G iv vs ds) (h : atI ds i = some d) : ∃ v, atI vs i = some v ∧ Rep κ G iv v d := by
  unfold atI at h ⊢
  rw [r.length]
  cases hi : ixN ds.length i with
  | none => rw [hi] at h; cases h
  | some k =>
    rw [hi] at h
    exact r.get h
theorem atI_mem {α : Type} {xs : List α} {i : Int} {x : α} (h : atI xs i = some x) : x ∈ xs := by
  unfold atI at h
  cases hi : ixN xs.length i with
  | none => rw [hi] at h; cases h
  | some k =>
    rw [hi] at h
    exact List.mem_of_getElem? h
theorem de_ix (hu : X.A.units + 1 < cLine) (ha : DE κ X a fa) (hb : DE κ X b fb) (hs : PlainIx b := by exact fun _ _ => rfl) : DE κ X (.Subscript a b pos) (f2 gIx fa fb) := by
  obtain ⟨ta, pa, qa⟩ := ha
  obtain ⟨tb, pb, qb⟩ := hb
  refine ⟨_, pe_ix (ix_seq.or (ix_dict hu)) pa pb hs, op_lift ?_ qa qb⟩
  intro P G H x y dx dy Q R g rx ry hf hR
  unfold gIx at hf
  split at hf
  · obtain ⟨v, h1, hf⟩ := hf
    cases ry
    cases rx with
    | lst h z r =>
      obtain ⟨u, h2, ru⟩ := atI_reps r h1
      exact .inl (.inl ⟨_, _, _, u, rfl, rfl, SqL.of (g.gx h rfl), h2, hR u P G H _ .refl g ru hf⟩)
  · obtain ⟨v, h1, hf⟩ := hf
    cases ry
    cases rx with
    | tup h z r =>
      obtain ⟨u, h2, ru⟩ := atI_reps r h1
      exact .inl (.inr (.inl ⟨_, _, _, u, rfl, rfl, SqT.of (g.gx h rfl), h2, hR u P G H _ .refl g ru hf⟩))
  · obtain ⟨c, h1, hf⟩ := hf
    cases ry
    cases rx with
    | str h => exact .inl (.inr (.inr ⟨_, _, c, rfl, rfl, by rw [str_len]; exact h.1, by rw [cpsL]; exact h1, hR _ P G H _ .refl g (.str (h.one (atI_mem h1))) hf⟩))
  · obtain ⟨hk, v, h1, hf⟩ := hf
    obtain ⟨p, e, q1, q2⟩ := rep_dget g.gh rx ry hk
    obtain ⟨u, h2, ru⟩ := q1 v h1
    exact .inr ⟨p, u, e, h2, hR u P G H _ .refl g ru hf⟩
  · obtain ⟨hk, v, h1, hf⟩ := hf
    obtain ⟨p, e, q1, q2⟩ := rep_dget g.gh rx ry hk
    obtain ⟨u, h2, ru⟩ := q1 v h1
    exact .inr ⟨p, u, e, h2, hR u P G H _ .refl g ru hf⟩
  · exact hf.elim

/-! ### slices -/
abbrev FO := DEnv → Nat → (Option Int → Nat → Prop) → Prop
def DP (κ : Kit) (X : Cx) (e : Option Expr) (f : FO) : Prop := ∃ t, PO X e t ∧ ∀ (P : Wd) (G H : Hp) (σ : L2.St) (env : DEnv) (Q : Option Int → Nat → Prop) (R : Option Int → Hp → Prop), Good κ P G H → EnvR κ G P.iv σ env → f env P.n Q →
  (∀ o P' G' H', Grow P G H P' G' H' → Good κ P' G' H' → Q o P'.n → R o H') → t σ H R
@[simp] def oNo : FO := fun _ n Q => Q none n
/-- it has to be a number -/
def gI (d : D) (m : Nat) (Q : Int → Nat → Prop) : Prop := ∃ i, d = .int i ∧ Q i m
@[simp] theorem gI_int {i : Int} {m : Nat} {Q : Int → Nat → Prop} : gI (.int i) m Q = Q i m := by
  refine propext ⟨?_, fun h => ⟨i, rfl, h⟩⟩
  rintro ⟨c, e, h⟩
  cases e
  exact h
@[simp] def oSo (f : FE) : FO := fun env n Q => f env n fun d m => gI d m fun i m => Q (some i) m
theorem dp_none : DP κ X none oNo := ⟨_, po_none, fun P G H σ env Q R g ev hf hR => hR none P G H .refl g hf⟩
theorem dp_some (h : DE κ X e f) : DP κ X (some e) (oSo f) := by
  obtain ⟨t, p, q⟩ := h
  refine ⟨_, po_some p, fun P G H σ env Q R g ev hf hR => q P G H σ env _ _ g ev hf fun v P' G' H' d gr g' r hq => ?_⟩
  obtain ⟨i, e, hq⟩ := hq
  subst e
  cases r
  exact ⟨i, rfl, hR (some i) P' G' H' gr g' hq⟩
/-- what a slice takes -/
def cutL {α : Type} (xs : List α) (lo hi : Option Int) : List α := (xs.drop (HT.sIx xs.length 0 lo)).take (HT.sIx xs.length xs.length hi - HT.sIx xs.length 0 lo)
@[simp] def fSlice (f : FE) (l h : FO) : FE := fun env n Q => f env n fun x n1 => l env n1 fun lo n2 => h env n2 fun hi n3 => match x with
  | .str s => Q (.str (cutL s lo hi)) n3
  | .tup xs => ¬ (HT.sIx xs.length 0 lo = 0 ∧ HT.sIx xs.length xs.length hi = xs.length) ∧ Q (.tup (cutL xs lo hi)) n3
  | _ => False
@[simp] def oSlice (f : FE) (l h : FO) : FA := fun env n Q => f env n fun x n1 => l env n1 fun lo n2 => h env n2 fun hi n3 => match x with
  | .lst xs => Q (cutL xs lo hi) n3
  | .scr ns => Q ((cutL ns lo hi).map D.int) n3
  | _ => False
theorem cutL_le {α : Type} (xs : List α) (lo hi : Option Int) : (cutL xs lo hi).length ≤ xs.length := by
  unfold cutL; rw [List.length_take, List.length_drop]; omega
theorem reps_cut {G : Hp} {iv : IV} {vs : List V} {ds : List D} (r : Reps κ G iv vs ds) (lo hi : Option Int) : Reps κ G iv (cutV vs lo hi) (cutL ds lo hi) := by
  unfold cutV cutL
  rw [r.length]
  exact (r.drop _).take _
theorem cut_map (ns : List Int) (lo hi : Option Int) : cutV (ns.map V.int) lo hi = (cutL ns lo hi).map V.int := by
  unfold cutV cutL
  rw [List.length_map, List.map_take, List.map_drop]
theorem OkS.cut {s : List Nat} (h : OkS s) (lo hi : Option Int) : OkS (cutL s lo hi) := (h.drop _).take _
theorem cutS_eq (s : List Nat) (lo hi : Option Int) : cutS ⟨s.toArray⟩ lo hi = ⟨(cutL s lo hi).toArray⟩ := by
  unfold cutS cutL
  rw [cpsL, str_len]
variable {lo hi : Option Expr} {fl fh : FO} {p2 : Pos}
theorem de_slice (ha : DE κ X a fa) (hl : DP κ X lo fl) (hh : DP κ X hi fh) : DE κ X (.Subscript a (.Slice lo hi none p2) pos) (fSlice fa fl fh) := by
  obtain ⟨ta, pa, qa⟩ := ha
  obtain ⟨tl, pl, ql⟩ := hl
  obtain ⟨th, ph, qh⟩ := hh
  refine ⟨_, pe_slice (SlR.or sl_str sl_tup) pa pl ph, fun P G H σ env Q R g ev hf hR => ?_⟩
  refine qa P G H σ env _ _ g ev hf fun v P1 G1 H1 d gr1 g1 r1 hf1 => ql P1 G1 H1 σ env _ _ g1 (ev.grow gr1) hf1 fun l P2 G2 H2 gr2 g2 hf2 => qh P2 G2 H2 σ env _ _ g2 ((ev.grow gr1).grow gr2) hf2 fun h P3 G3 H3 gr3 g3 hf3 => ?_
  have gr := (gr1.trans gr2).trans gr3
  have r3 := gr3.rep (gr2.rep r1)
  split at hf3
  · cases r3 with
    | str hs => exact .inl ⟨_, rfl, by rw [str_len]; exact hs.1, by rw [cutS_eq]; exact hR _ P3 G3 H3 _ gr g3 (.str (hs.cut l h)) hf3⟩
  · cases r3 with
    | tup ht z r =>
      refine .inr ⟨_, _, rfl, SqT.of (g3.gx ht rfl), by rw [r.length]; exact hf3.1, fun p hp => ?_⟩
      have hg := g3.gnone hp
      exact hR _ P3 (upd G3 p (.tup _)) _ _ (gr.trans ((Grow.new hp).frz hp hg)) ((g3.new hp).frz hg (g3.inone hp) upd_same) (.tup upd_same (Nat.le_trans (cutV_length _ _ _) z) (reps_frz hg (reps_cut r l h))) hf3.2
  · exact hf3.elim
theorem do_slice (hK : κ.K = X.K) (ha : DE κ X a fa) (hl : DP κ X lo fl) (hh : DP κ X hi fh) : DO κ X (.Subscript a (.Slice lo hi none p2) pos) (oSlice fa fl fh) := by
  obtain ⟨ta, pa, qa⟩ := ha
  obtain ⟨tl, pl, ql⟩ := hl
  obtain ⟨th, ph, qh⟩ := hh
  refine ⟨_, pe_slice sl_list pa pl ph, fun P G H σ env Q R g ev hf hR => ?_⟩
  refine qa P G H σ env _ _ g ev hf fun v P1 G1 H1 d gr1 g1 r1 hf1 => ql P1 G1 H1 σ env _ _ g1 (ev.grow gr1) hf1 fun l P2 G2 H2 gr2 g2 hf2 => qh P2 G2 H2 σ env _ _ g2 ((ev.grow gr1).grow gr2) hf2 fun h P3 G3 H3 gr3 g3 hf3 => ?_
  have gr := (gr1.trans gr2).trans gr3
  have r3 := gr3.rep (gr2.rep r1)
  split at hf3
  · cases r3 with
    | lst ht z r =>
      refine ⟨_, _, rfl, SqL.of (g3.gx ht rfl), fun p hp => ?_⟩
      exact hR p P3 G3 _ _ _ (gr.trans (Grow.new hp)) (g3.new hp) (gr.back hp) (g3.gnone hp) (g3.inone hp) upd_same (Nat.le_trans (cutV_length _ _ _) z) (reps_cut r l h) hf3
  · cases r3 with
    | scr ht z =>
      refine ⟨_, _, rfl, by rw [← hK]; exact sql_at g3.gh ht, fun p hp => ?_⟩
      rw [cut_map]
      exact hR p P3 G3 _ _ _ (gr.trans (Grow.new hp)) (g3.new hp) (gr.back hp) (g3.gnone hp) (g3.inone hp) upd_same (by rw [List.length_map]; exact Nat.le_trans (cutL_le _ _ _) z) Reps.ints hf3
  · exact hf3.elim

/-! ### methods of texts, of ints -/
def joinL (sep : List Nat) : List (List Nat) → List Nat
  | [] => []
  | [s] => s
  | s :: t :: r => s ++ sep ++ joinL sep (t :: r)
def fJoin (fo fa : FE) : FE := fun env n Q => fo env n fun s n1 => fa env n1 fun x n2 => ∃ (sp : List Nat) (ss : List (List Nat)), s = .str sp ∧ (x = .lst (ss.map D.str) ∨ x = .tup (ss.map D.str)) ∧ (ss.map List.length).sum + ss.length * sp.length ≤ 16777216 ∧ Q (.str (joinL sp ss)) n2
theorem subAt_zero (s t : List Nat) : Builtin.Str.subAt ⟨s.toArray⟩ ⟨t.toArray⟩ 0 = (s.take t.length == t) := by
  unfold Builtin.Str.subAt
  rw [str_len]
  rw [Bool.eq_iff_iff, beq_iff_eq, beq_iff_eq]
  constructor
  · intro h
    have := congrArg Array.toList h
    simpa using this
  · intro h
    apply Array.toList_inj.mp
    simpa using h
/-- it is a text -/
def isS (x : D) : Prop := ∃ s, x = .str s
@[simp] theorem isS_str {s : List Nat} : isS (.str s) = True := eq_true ⟨s, rfl⟩
@[simp] def fM1 (φ : D → D → Nat → (D → Nat → Prop) → Prop) (fa fb : FE) : FE := fun env n Q => fa env n fun x n1 => isS x ∧ fb env n1 fun y n2 => φ x y n2 Q
theorem m1_lift {r : V → List V → Hp → VK → Prop} {φ : D → D → Nat → (D → Nat → Prop) → Prop} {ta tb : TE} (hl : LiftR κ (fun x y => r x [y]) φ) (ha : RdE κ fa ta) (hb : RdE κ fb tb) : RdE κ (fM1 φ fa fb) (tM1 r ta tb) := fun P G H σ env Q R g ev hf hR => by
  refine ha P G H σ env _ _ g ev hf fun x P1 G1 H1 dx gr1 g1 rx hf1 => ?_
  obtain ⟨⟨s, e⟩, hf1⟩ := hf1
  subst e
  have hx : ∃ a, x = .str a := by cases rx; exact ⟨_, rfl⟩
  exact ⟨hx, hb P1 G1 H1 σ env _ _ g1 (ev.grow gr1) hf1 fun y P2 G2 H2 dy gr2 g2 ry hf2 => hl P2 G2 H2 x y _ dy Q R g2 (gr2.rep rx) ry hf2 (hR.grow (gr1.trans gr2))⟩
def gStarts (x y : D) (n : Nat) (Q : D → Nat → Prop) : Prop := match x, y with
  | .str s, .str t => Q (.bl (s.take t.length == t)) n
  | _, _ => False
theorem starts_eq (s t : List Nat) : Txt.startswith ⟨s.toArray⟩ ⟨t.toArray⟩ = (s.take t.length == t) := by
  unfold Txt.startswith
  rw [subAt_zero, str_len, str_len]
  by_cases h : (s.take t.length == t) = true
  · rw [h]
    have h1 := congrArg List.length (beq_iff_eq.mp h)
    rw [List.length_take] at h1
    simp only [Bool.and_true, decide_eq_true_eq]
    omega
  · rw [Bool.eq_false_iff.mpr h, Bool.and_false]
theorem de_starts {apos : Pos} (ho : DE κ X o fa) (he : DE κ X e fb) (hs : starEach [e] X.env = [(false, eval e X.env)] := by rfl) (hbase : attributeBase o "startswith" X.env (eval o X.env) = eval o X.env := by rfl) (hline : (apos.endLine == pos.line) = true := by rfl) :
    DE κ X (.Call (.Attribute o "startswith" apos) [e] [] pos) (fM1 gStarts fa fb) := by
  obtain ⟨ta, pa, qa⟩ := ho
  obtain ⟨tb, pb, qb⟩ := he
  refine ⟨_, pe_m1 PySem.F.slot_str_startswith PySem.F.type_str_startswith mt_startswith pa pb hs hbase hline, m1_lift ?_ qa qb⟩
  intro P G H x y dx dy Q R g rx ry hf hR
  cases rx <;> cases ry <;> try (exact False.elim hf)
  exact ⟨_, _, rfl, rfl, by rw [starts_eq]; exact hR _ P G H _ .refl g .bl hf⟩
def gJoin (x y : D) (n : Nat) (Q : D → Nat → Prop) : Prop := ∃ (sp : List Nat) (ss : List (List Nat)), x = .str sp ∧ (y = .lst (ss.map D.str) ∨ y = .tup (ss.map D.str)) ∧ (ss.map List.length).sum + ss.length * sp.length ≤ 16777216 ∧ Q (.str (joinL sp ss)) n
theorem join_eq (sp : List Nat) : ∀ ss : List (List Nat), Txt.join ⟨sp.toArray⟩ (ss.map fun s => (⟨s.toArray⟩ : Str)) = ⟨(joinL sp ss).toArray⟩ := by
  intro ss
  unfold Txt.join
  rw [PySem.StrLaws.glued_eq_join]
  induction ss with
  | nil => rfl
  | cons s ss ih =>
    cases ss with
    | nil => rfl
    | cons t r =>
      show (⟨s.toArray⟩ : Str) ++ ⟨sp.toArray⟩ ++ Str.join ⟨sp.toArray⟩ ((t :: r).map fun s => (⟨s.toArray⟩ : Str)) = _
      rw [ih, str_app, str_app]
      rfl
theorem joinL_len (sp : List Nat) : ∀ ss : List (List Nat), (joinL sp ss).length ≤ (ss.map List.length).sum + ss.length * sp.length
  | [] => Nat.zero_le _
  | [s] => by simp [joinL]
  | s :: t :: r => by
    have ih := joinL_len sp (t :: r)
    simp only [joinL, List.length_append, List.map_cons, List.sum_cons, List.length_cons] at ih ⊢
    rw [Nat.succ_mul]
    omega
theorem joinL_mem {sp : List Nat} {c : Nat} : ∀ {ss : List (List Nat)}, c ∈ joinL sp ss → c ∈ sp ∨ ∃ s ∈ ss, c ∈ s
  | [], h => by simp [joinL] at h
  | [s], h => .inr ⟨s, List.mem_singleton.mpr rfl, h⟩
  | s :: t :: r, h => by
    simp only [joinL, List.mem_append] at h
    rcases h with (h | h) | h
    · exact .inr ⟨s, List.mem_cons_self .., h⟩
    · exact .inl h
    · rcases joinL_mem h with h | ⟨u, hu, h⟩
      · exact .inl h
      · exact .inr ⟨u, List.mem_cons_of_mem _ hu, h⟩
theorem de_join {apos : Pos} (ho : DE κ X o fa) (he : DE κ X e fb) (hs : starEach [e] X.env = [(false, eval e X.env)] := by rfl) (hbase : attributeBase o "join" X.env (eval o X.env) = eval o X.env := by rfl) (hline : (apos.endLine == pos.line) = true := by rfl) :
    DE κ X (.Call (.Attribute o "join" apos) [e] [] pos) (fM1 gJoin fa fb) := by
  obtain ⟨ta, pa, qa⟩ := ho
  obtain ⟨tb, pb, qb⟩ := he
  refine ⟨_, pe_join pa pb hs hbase hline, m1_lift ?_ qa qb⟩
  intro P G H x y dx dy Q R g rx ry hf hR
  obtain ⟨sp, ss, e, ey, hz, hf⟩ := hf
  subst e
  have hl : sizeLine = 16777216 := sizeLine_eq
  cases rx with
  | str hsp =>
  have fin : ∀ us : List V, Reps κ G P.iv us (ss.map D.str) → us = (ss.map fun s => (⟨s.toArray⟩ : Str)).map V.str ∧ Rep κ G P.iv (.str ⟨(joinL sp ss).toArray⟩) (.str (joinL sp ss)) := fun us r => by
    obtain ⟨e1, e2⟩ := r.of_strs
    refine ⟨e1, .str ⟨Nat.le_trans (joinL_len sp ss) (by omega), fun c hc => ?_⟩⟩
    rcases joinL_mem hc with h | ⟨s, h1, h2⟩
    · exact hsp.2 c h
    · exact (e2 s h1).2 c h2
  have hz' : ((ss.map fun s => (⟨s.toArray⟩ : Str)).map (·.length)).sum + (ss.map fun s => (⟨s.toArray⟩ : Str)).length * (⟨sp.toArray⟩ : Str).length ≤ 16777216 := by
    rw [List.map_map, List.length_map, str_len]
    have : ((fun x : Str => x.length) ∘ fun s : List Nat => (⟨s.toArray⟩ : Str)) = List.length := by funext s; exact str_len s
    rw [this]; exact hz
  rcases ey with e | e
  · subst e
    cases ry with
    | lst h z r =>
      obtain ⟨e1, r1⟩ := fin _ r
      exact ⟨_, _, _, rfl, rfl, .inl (SqL.of (by rw [← e1]; exact g.gx h rfl)), hz', by rw [join_eq]; exact hR _ P G H _ .refl g r1 hf⟩
  · subst e
    cases ry with
    | tup h z r =>
      obtain ⟨e1, r1⟩ := fin _ r
      exact ⟨_, _, _, rfl, rfl, .inr (SqT.of (by rw [← e1]; exact g.gx h rfl)), hz', by rw [join_eq]; exact hR _ P G H _ .refl g r1 hf⟩
def gBits (x : D) (n : Nat) (Q : D → Nat → Prop) : Prop := match x with
  | .int i => Q (.int (Builtin.Int.intBits i : Nat)) n
  | _ => False
theorem de_bits {apos : Pos} (ho : DE κ X o fa) (hbase : attributeBase o "bit_length" X.env (eval o X.env) = eval o X.env := by rfl) (hline : (apos.endLine == pos.line) = true := by rfl) :
    DE κ X (.Call (.Attribute o "bit_length" apos) [] [] pos) (f1 gBits fa) := by
  obtain ⟨ta, pa, qa⟩ := ho
  refine ⟨_, pe_bits pa hbase hline, fun P G H σ env Q R g ev hf hR => qa P G H σ env _ _ g ev hf fun v P' G' H' d gr g' r hq => ?_⟩
  cases r <;> try (exact False.elim hq)
  exact ⟨_, rfl, hR _ P' G' H' _ gr g' .int hq⟩
/-! ### a star in a display -/
@[simp] def aStar (f : FE) (r : FA) : FA := fun env n Q => f env n fun x n1 => ∃ xs, (x = .lst xs ∨ x = .tup xs) ∧ r env n1 fun ys n2 => Q (xs ++ ys) n2
end
end DL

/-! ## DL8 -/
/-! DL8: what is walked, targets, comprehensions -/
namespace DL
open PySem PySem.Spec PyProof.Rows L2
/-- the frozen part grows -/
structure Ext (P : Wd) (G : Hp) (P' : Wd) (G' : Hp) : Prop where
  fz : ∀ a o, P.fz a = some o → P'.fz a = some o
  iv : ∀ a t, P.iv a = some t → P'.iv a = some t
  n : P.n ≤ P'.n
  g : ∀ a o, G a = some o → G' a = some o
theorem Grow.ext {P P1 : Wd} {G H G1 H1 : Hp} (gr : Grow P G H P1 G1 H1) : Ext P G P1 G1 := ⟨gr.fz, gr.iv, gr.n, gr.g⟩
theorem Ext.trans {P P1 P2 : Wd} {G G1 G2 : Hp} (a : Ext P G P1 G1) (b : Ext P1 G1 P2 G2) : Ext P G P2 G2 := ⟨fun x o h => b.fz x o (a.fz x o h), fun x o h => b.iv x o (a.iv x o h), Nat.le_trans a.n b.n, fun x o h => b.g x o (a.g x o h)⟩
theorem Ext.refl {P : Wd} {G : Hp} : Ext P G P G := ⟨fun _ _ h => h, fun _ _ h => h, Nat.le_refl _, fun _ _ h => h⟩
theorem Ext.reps {κ : Kit} {P P1 : Wd} {G G1 : Hp} {v : List V} {d : List D} (a : Ext P G P1 G1) (r : Reps κ G P.iv v d) : Reps κ G1 P1.iv v d := r.mono a.g a.iv
/-- an iterator that gives xs, whatever else grows -/
def IterD (κ : Kit) (J : It) (P : Wd) (G H : Hp) (xs : List D) : Prop := xs.length ≤ sizeLine ∧ ∀ (i : Nat) (P1 : Wd) (G1 H1 : Hp), Ext P G P1 G1 → Good κ P1 G1 H1 →
  (i < xs.length → J.go i H1 ∧ ∀ (v : V) (H2 : Hp), J.yld i H1 v H2 → ∃ G2 d, Grow P1 G1 H1 P1 G2 H2 ∧ Good κ P1 G2 H2 ∧ xs[i]? = some d ∧ Rep κ G2 P1.iv v d) ∧ (i = xs.length → J.stop i H1)
theorem IterD.grow {κ : Kit} {J : It} {P P1 : Wd} {G H G1 H1 : Hp} {xs : List D} (it : IterD κ J P G H xs) (gr : Grow P G H P1 G1 H1) : IterD κ J P1 G1 H1 xs := ⟨it.1, fun i P2 G2 H2 gr2 g2 => it.2 i P2 G2 H2 (gr.ext.trans gr2) g2⟩
abbrev LkI (κ : Kit) (P : Wd) (G H : Hp) (Q : List D → Nat → Prop) (R : It → Hp → Prop) : Prop := ∀ J P' G' H' xs, Grow P G H P' G' H' → Good κ P' G' H' → IterD κ J P' G' H' xs → Q xs P'.n → R J H'
abbrev RdI (κ : Kit) (f : FA) (w : TI) : Prop := ∀ (P : Wd) (G H : Hp) (σ : L2.St) (env : DEnv) (Q : List D → Nat → Prop) (R : It → Hp → Prop), Good κ P G H → EnvR κ G P.iv σ env → f env P.n Q → LkI κ P G H Q R → w σ H R
def DI0 (κ : Kit) (X : Cx) (tg iter : Expr) (f : FA) : Prop := ∃ w, PI X tg iter w ∧ RdI κ f w
/-- .. that gives xs while S holds -/
def IterS (κ : Kit) (S : Hp → Prop) (J : It) (P : Wd) (G : Hp) (xs : List D) : Prop := xs.length ≤ sizeLine ∧ ∀ (i : Nat) (P1 : Wd) (G1 H1 : Hp), Ext P G P1 G1 → Good κ P1 G1 H1 → S H1 →
  (i < xs.length → J.go i H1 ∧ ∀ (v : V) (H2 : Hp), J.yld i H1 v H2 → ∃ G2 d, Grow P1 G1 H1 P1 G2 H2 ∧ Good κ P1 G2 H2 ∧ xs[i]? = some d ∧ Rep κ G2 P1.iv v d) ∧ (i = xs.length → J.stop i H1)
theorem IterD.s {κ : Kit} {J : It} {P : Wd} {G H : Hp} {xs : List D} (it : IterD κ J P G H xs) : IterS κ (fun _ => True) J P G xs := ⟨it.1, fun i P1 G1 H1 e g _ => it.2 i P1 G1 H1 e g⟩
/-- walked as it is, or a dict that is locked for the walk -/
def RdJ (κ : Kit) (f : FA) (w : TI) : Prop := ∀ (P : Wd) (G H : Hp) (σ : L2.St) (env : DEnv) (Q : List D → Nat → Prop), Good κ P G H → EnvR κ G P.iv σ env → f env P.n Q → (∀ R : It → Hp → Prop, LkI κ P G H Q R → w σ H R) ∨
  ∃ (a : Addr) (u : HO), G a = some u ∧ isDk u = true ∧ ∀ (od : Obj) (H1 : Hp), H1 a = some (.frz od u) → Good κ P G H1 → ∀ R : It → Hp → Prop, (∀ J xs, IterS κ (fun H' => H' a = some (.frz od u)) J P G xs → Q xs P.n → R J H1) → w σ H1 R
def DI (κ : Kit) (X : Cx) (tg iter : Expr) (f : FA) : Prop := ∃ w, PI X tg iter w ∧ RdJ κ f w
theorem DI0.j {κ : Kit} {X : Cx} {tg iter : Expr} {f : FA} (h : DI0 κ X tg iter f) : DI κ X tg iter f := by
  obtain ⟨w, p, q⟩ := h
  exact ⟨w, p, fun P G H σ env Q g ev hf => .inl fun R hR => q P G H σ env Q R g ev hf hR⟩
/-- an expression, a statement that runs as it is or while a dict is locked -/
def tLk (t : TE) : TE := fun σ H Q => tLockE t σ H Q ∨ t σ H Q
theorem PE.lk {X : Cx} {e : Expr} {t : TE} (h : PE X e t) : PE X e (tLk t) := ⟨fun pins s σ H Q I hw => by
  rcases hw with hw | hw
  · exact (pe_lock h).run pins s σ H Q I hw
  · exact h.run pins s σ H Q I hw⟩
theorem PS.lk {X : Cx} {st : Stmt} {t : TE} {i : Nat} (h : PS X st (tAsg t (gName i))) : PS X st (tAsg (tLk t) (gName i)) := ⟨fun pins s σ H D I hw => by
  rcases hw with hw | hw
  · exact (ps_lock h).run pins s σ H D I hw
  · exact h.run pins s σ H D I hw⟩
theorem dk_mut {u : HO} (h : isDk u = true) : Mut (some u) := by cases u <;> first | trivial | exact absurd h (by simp [isDk])
section
variable {κ : Kit} {X : Cx} {a b c e o tg : Expr} {es : List Expr} {fa fb fc f : FE} {far : FA} {pos : Pos} {t1 t2 : FT}
theorem da_star {p : Pos} (ha : DE κ X e f) (hr : DA κ X es far) (hs : starEach (.Starred e p :: es) X.env = (true, eval e X.env) :: starEach es X.env := by rfl) : DA κ X (.Starred e p :: es) (aStar f far) := by
  obtain ⟨ta, pa, qa⟩ := ha
  obtain ⟨tb, pb, qb⟩ := hr
  refine ⟨_, StX.pa_star pa pb hs, fun P G H σ env Q R g ev hf hR => ?_⟩
  refine qa P G H σ env _ _ g ev hf fun x P1 G1 H1 dx gr1 g1 rx hf1 => ?_
  obtain ⟨xs, e, hf1⟩ := hf1
  rcases e with e | e
  · subst e
    cases rx with
    | lst h z r => exact ⟨_, _, rfl, .inr (SqL.of (g1.gx h rfl)), qb P1 G1 H1 σ env _ _ g1 (ev.grow gr1) hf1 fun ys P2 G2 H2 ds gr2 g2 rs hq => hR _ P2 G2 H2 _ (gr1.trans gr2) g2 ((gr2.reps r).append rs) hq⟩
  · subst e
    cases rx with
    | tup h z r => exact ⟨_, _, rfl, .inl (SqT.of (g1.gx h rfl)), qb P1 G1 H1 σ env _ _ g1 (ev.grow gr1) hf1 fun ys P2 G2 H2 ds gr2 g2 rs hq => hR _ P2 G2 H2 _ (gr1.trans gr2) g2 ((gr2.reps r).append rs) hq⟩

/-! ### what is walked -/
theorem PI.or {iter : Expr} {w1 w2 : TI} (h1 : PI X tg iter w1) (h2 : PI X tg iter w2) : PI X tg iter (fun σ H R => w1 σ H R ∨ w2 σ H R) := ⟨fun pins s σ H R I h => by
  rcases h with h | h
  · exact h1.run pins s σ H R I h
  · exact h2.run pins s σ H R I h⟩
theorem sqL_inj {K : PySem.W.Frag} {H : Hp} {a : Addr} {xs : List V} {o : HO} (h : H a = some (.lst xs)) : SqL K H a xs := SqL.of h
theorem iter_list {K : PySem.W.Frag} {P : Wd} {G H : Hp} {a : Addr} {vs : List V} {xs : List D} (g : Good κ P G H) (h : G a = some (.lst vs)) (z : vs.length ≤ sizeLine) (r : Reps κ G P.iv vs xs) : IterD κ (Itl K a) P G H xs := by
  refine ⟨by rw [← r.length]; exact z, fun i P1 G1 H1 gr g1 => ⟨fun hi => ?_, fun hi => ?_⟩⟩
  · have h1 : H1 a = some (.lst vs) := g1.gx (gr.g _ _ h) rfl
    have r1 := gr.reps r
    obtain ⟨v, hv, rv⟩ := r1.get (List.getElem?_eq_getElem hi)
    refine ⟨⟨vs, v, SqL.of h1, hv⟩, fun u H2 hy => ?_⟩
    obtain ⟨e, hu⟩ := hy
    subst e
    have := hu vs (SqL.of h1)
    rw [hv] at this
    cases this
    exact ⟨G1, _, .refl, g1, List.getElem?_eq_getElem hi, rv⟩
  · have h1 : H1 a = some (.lst vs) := g1.gx (gr.g _ _ h) rfl
    exact ⟨vs, SqL.of h1, by rw [r.length]; omega⟩
theorem iter_tup {K : PySem.W.Frag} {P : Wd} {G H : Hp} {a : Addr} {vs : List V} {xs : List D} (g : Good κ P G H) (h : G a = some (.tup vs)) (z : vs.length ≤ sizeLine) (r : Reps κ G P.iv vs xs) : IterD κ (Itt K a) P G H xs := by
  refine ⟨by rw [← r.length]; exact z, fun i P1 G1 H1 gr g1 => ⟨fun hi => ?_, fun hi => ?_⟩⟩
  · have h1 : H1 a = some (.tup vs) := g1.gx (gr.g _ _ h) rfl
    have r1 := gr.reps r
    obtain ⟨v, hv, rv⟩ := r1.get (List.getElem?_eq_getElem hi)
    refine ⟨⟨vs, v, SqT.of h1, hv⟩, fun u H2 hy => ?_⟩
    obtain ⟨e, hu⟩ := hy
    subst e
    have := hu vs (SqT.of h1)
    rw [hv] at this
    cases this
    exact ⟨G1, _, .refl, g1, List.getElem?_eq_getElem hi, rv⟩
  · have h1 : H1 a = some (.tup vs) := g1.gx (gr.g _ _ h) rfl
    exact ⟨vs, SqT.of h1, by rw [r.length]; omega⟩
/-- over a list, a tuple, a text -/
def iAny (K : PySem.W.Frag) (te : TE) : TI := fun σ H R => te σ H fun v H1 => (∃ a, v = .ref a ∧ (∃ xs, SqL K H1 a xs) ∧ R (Itl K a) H1) ∨ (∃ a, v = .ref a ∧ (∃ xs, SqT K H1 a xs) ∧ R (Itt K a) H1) ∨ (∃ x, v = .str x ∧ R (Its x) H1)
theorem pi_any {l : Expr} {tl : TE} (hl : PE X l tl) : PI X tg l (iAny X.K tl) := by
  refine ⟨fun pins s σ H R I h => ?_⟩
  refine thn (hl.run pins s σ H _ I h) fun v s1 ⟨x, H1, I1, r1, q1⟩ => ?_
  rcases q1 with ⟨a, e, ⟨xs, hq⟩, q⟩ | ⟨a, e, ⟨xs, hq⟩, q⟩ | ⟨x, e, q⟩
  · subst e
    cases r1
    obtain ⟨its, rv, p, hz⟩ := I1.list hq
    refine wpAny_pyIter_list p.isList ?_
    refine ⟨s1.heap.objs.size, [s1.heap.objs.size], _, _, H1, rfl, I1.kept (t' := s1.toks) fun b o e => Heap.get?_push_of_some _ e, turn_list a _, ⟨_, Heap.get?_push_size _ rfl, rfl, rfl⟩, fun b hb => ?_, q⟩
    have e : b = s1.heap.objs.size := by simpa using hb
    subst e
    exact I1.fpOk (Nat.le_refl _) (I1.hok.fresh (Nat.le_refl _))
  · subst e
    cases r1
    obtain ⟨its, rv, p, hz⟩ := I1.tuple hq
    refine wpAny_pyIter_tuple (show s1.heap.IsTuple a its.toArray from p) ?_
    refine ⟨s1.heap.objs.size, [s1.heap.objs.size], _, _, H1, rfl, I1.kept (t' := s1.toks) fun b o e => Heap.get?_push_of_some _ e, turn_tuple a _, ⟨_, Heap.get?_push_size _ rfl, rfl, rfl⟩, fun b hb => ?_, q⟩
    have e : b = s1.heap.objs.size := by simpa using hb
    subst e
    exact I1.fpOk (Nat.le_refl _) (I1.hok.fresh (Nat.le_refl _))
  · subst e
    obtain ⟨t, rfl⟩ := r1
    cases ha : x.cps.all (· < 128)
    · exact wpAny_pyIter_wide ha (pi_one (tk := s1.toks) I1 _ (turn_str _ x t "str_iterator" (.inr rfl)) ⟨_, Heap.get?_push_size _ rfl, rfl, rfl⟩ q)
    · exact wpAny_pyIter_ascii ha (pi_one (tk := s1.toks) I1 _ (turn_str _ x t "str_ascii_iterator" (.inl rfl)) ⟨_, Heap.get?_push_size _ rfl, rfl, rfl⟩ q)
theorem iter_str {P : Wd} {G H : Hp} {s : List Nat} (h : OkS s) : IterD κ (Its ⟨s.toArray⟩) P G H (s.map fun c => .str [c]) := by
  refine ⟨by rw [List.length_map]; exact h.1, fun i P1 G1 H1 gr g1 => ⟨fun hi => ?_, fun hi => ?_⟩⟩
  · rw [List.length_map] at hi
    refine ⟨by show i < s.toArray.size; simpa using hi, fun u H2 hy => ?_⟩
    obtain ⟨e, c, hc, eu⟩ := hy
    subst e eu
    have hc' : s[i]? = some c := by simpa using hc
    exact ⟨G1, .str [c], .refl, g1, by rw [List.getElem?_map, hc']; rfl, .str (h.one (List.mem_of_getElem? hc'))⟩
  · rw [List.length_map] at hi
    show s.toArray.size ≤ i
    rw [List.size_toArray]; omega
def gSeq (x : D) (m : Nat) (Q : List D → Nat → Prop) : Prop := match x with
  | .lst xs => Q xs m
  | .tup xs => Q xs m
  | .str s => Q (s.map fun c => .str [c]) m
  | _ => False
@[simp] def iSeq (f : FE) : FA := fun env n Q => f env n fun x m => gSeq x m Q
theorem di_seq (ha : DE κ X e f) : DI0 κ X tg e (iSeq f) := by
  obtain ⟨ta, pa, qa⟩ := ha
  refine ⟨_, pi_any pa, fun P G H σ env Q R g ev hf hR => ?_⟩
  refine qa P G H σ env _ _ g ev hf fun v P1 G1 H1 d gr g1 r hq => ?_
  unfold gSeq at hq
  split at hq
  · cases r with
    | lst h z r => exact .inl ⟨_, rfl, ⟨_, SqL.of (g1.gx h rfl)⟩, hR _ P1 G1 H1 _ gr g1 (iter_list g1 h z r) hq⟩
  · cases r with
    | tup h z r => exact .inr (.inl ⟨_, rfl, ⟨_, SqT.of (g1.gx h rfl)⟩, hR _ P1 G1 H1 _ gr g1 (iter_tup g1 h z r) hq⟩)
  · cases r with
    | str h => exact .inr (.inr ⟨_, rfl, hR _ P1 G1 H1 _ gr g1 (iter_str h) hq⟩)
  · exact hq.elim
/-- a row of whole numbers -/
def ups (lo : Int) (n : Nat) : List D := (List.range n).map fun i => .int (lo + (i : Nat))
theorem iter_rng {P : Wd} {G H : Hp} {lo : Int} {n : Nat} (hn : n ≤ sizeLine) : IterD κ (Itr lo n) P G H (ups lo n) := by
  have hl : (ups lo n).length = n := by unfold ups; rw [List.length_map, List.length_range]
  refine ⟨by rw [hl]; exact hn, fun i P1 G1 H1 gr g1 => ⟨fun hi => ?_, fun hi => ?_⟩⟩
  · rw [hl] at hi
    refine ⟨hi, fun u H2 hy => ?_⟩
    obtain ⟨e, eu⟩ := hy
    subst e eu
    exact ⟨G1, _, .refl, g1, by unfold ups; rw [List.getElem?_map, List.getElem?_range hi]; rfl, .int⟩
  · rw [hl] at hi
    show n ≤ i
    omega
/-- over range(..): one bound, two, downwards -/
def gRange1 (ds : List D) (m : Nat) (Q : List D → Nat → Prop) : Prop := match ds with
  | [.int j] => (j ≤ 16777216 ∧ -(2 ^ 61) < j) ∧ Q (ups 0 j.toNat) m
  | _ => False
def gRange2 (ds : List D) (m : Nat) (Q : List D → Nat → Prop) : Prop := match ds with
  | [.int i, .int j] => (j - i ≤ 16777216 ∧ -(2 ^ 61) < i ∧ i < 2 ^ 61 ∧ -(2 ^ 61) < j) ∧ Q (ups i (j - i).toNat) m
  | _ => False
@[simp] def iRange1 (fa : FA) : FA := fun env n Q => fa env n fun ds m => gRange1 ds m Q
@[simp] def iRange2 (fa : FA) : FA := fun env n Q => fa env n fun ds m => gRange2 ds m Q
theorem di_range1 {p : Pos} (hg : Gl X "range") (hm : X.mg "range" = none) (ha : DA κ X [a] far) (hs : starEach [a] X.env = [(false, eval a X.env)] := by rfl) : DI0 κ X tg (.Call (.Name "range" p) [a] [] pos) (iRange1 far) := by
  obtain ⟨ta, pa, qa⟩ := ha
  refine ⟨_, pi_range1 hg hm pa hs, fun P G H σ env Q R g ev hf hR => ?_⟩
  refine qa P G H σ env _ _ g ev hf fun vs P1 G1 H1 ds gr g1 r hq => ?_
  have hl : sizeLine = 16777216 := sizeLine_eq
  unfold gRange1 at hq
  split at hq
  · obtain ⟨hj, hq⟩ := hq
    obtain ⟨v, rfl, rv⟩ := val1 r
    cases rv
    exact ⟨_, rfl, by omega, by omega, hR _ P1 G1 H1 _ gr g1 (iter_rng (by omega)) hq⟩
  · exact hq.elim
theorem di_range2 {p : Pos} (hg : Gl X "range") (hm : X.mg "range" = none) (ha : DA κ X [a, b] far) (hs : starEach [a, b] X.env = [(false, eval a X.env), (false, eval b X.env)] := by rfl) (hs2 : starEach [b] X.env = [(false, eval b X.env)] := by rfl) : DI0 κ X tg (.Call (.Name "range" p) [a, b] [] pos) (iRange2 far) := by
  obtain ⟨ta, pa, qa⟩ := ha
  refine ⟨_, pi_range2 hg hm pa hs hs2, fun P G H σ env Q R g ev hf hR => ?_⟩
  refine qa P G H σ env _ _ g ev hf fun vs P1 G1 H1 ds gr g1 r hq => ?_
  have hl : sizeLine = 16777216 := sizeLine_eq
  unfold gRange2 at hq
  split at hq
  · obtain ⟨hj, hq⟩ := hq
    obtain ⟨v, u, rfl, rv, ru⟩ := val2 r
    cases rv; cases ru
    exact ⟨_, _, rfl, by omega, hR _ P1 G1 H1 _ gr g1 (iter_rng (by omega)) hq⟩
  · exact hq.elim
/-- enumerate(xs) -/
def enumD : Nat → List D → List D
  | _, [] => []
  | k, x :: xs => .tup [.int (k : Nat), x] :: enumD (k + 1) xs
theorem enumD_len : ∀ (k : Nat) (xs : List D), (enumD k xs).length = xs.length
  | _, [] => rfl
  | k, _ :: xs => by rw [enumD, List.length_cons, enumD_len, List.length_cons]
theorem enumD_get : ∀ (k : Nat) (xs : List D) (i : Nat) (d : D), xs[i]? = some d → (enumD k xs)[i]? = some (.tup [.int ((k + i : Nat) : Int), d])
  | _, [], _, _, h => by simp at h
  | k, x :: xs, 0, d, h => by simp at h; subst h; simp [enumD]
  | k, x :: xs, i + 1, d, h => by
    have := enumD_get (k + 1) xs i d (by simpa using h)
    simp only [enumD, List.getElem?_cons_succ, this]
    congr 5
    omega
def gEnumD (ds : List D) (m : Nat) (Q : List D → Nat → Prop) : Prop := match ds with
  | [.lst xs] => Q (enumD 0 xs) m
  | _ => False
@[simp] def iEnumD (fa : FA) : FA := fun env n Q => fa env n fun ds m => gEnumD ds m Q
theorem new_tup {P1 : Wd} {G1 H1 : Hp} {T : Addr} {us : List V} {ds : List D} (g1 : Good κ P1 G1 H1) (hT : H1 T = none) (z : us.length ≤ sizeLine) (r : Reps κ G1 P1.iv us ds) :
    Grow P1 G1 H1 P1 (upd G1 T (.tup us)) (upd H1 T (.tup us)) ∧ Good κ P1 (upd G1 T (.tup us)) (upd H1 T (.tup us)) ∧ Rep κ (upd G1 T (.tup us)) P1.iv (.ref T) (.tup ds) :=
  ⟨(Grow.new hT).frz hT (g1.gnone hT), (g1.new hT).frz (g1.gnone hT) (g1.inone hT) upd_same, .tup upd_same z (reps_frz (g1.gnone hT) r)⟩
theorem iter_enum {K : PySem.W.Frag} {P : Wd} {G H : Hp} {a : Addr} {vs : List V} {xs : List D} (g : Good κ P G H) (h : G a = some (.lst vs)) (z : vs.length ≤ sizeLine) (r : Reps κ G P.iv vs xs) : IterD κ (Ite K a) P G H (enumD 0 xs) := by
  refine ⟨by rw [enumD_len, ← r.length]; exact z, fun i P1 G1 H1 gr g1 => ⟨fun hi => ?_, fun hi => ?_⟩⟩
  · rw [enumD_len] at hi
    have h1 : H1 a = some (.lst vs) := g1.gx (gr.g _ _ h) rfl
    have r1 := gr.reps r
    obtain ⟨v, hv, rv⟩ := r1.get (List.getElem?_eq_getElem hi)
    refine ⟨⟨vs, v, SqL.of h1, hv⟩, fun u H2 hy => ?_⟩
    obtain ⟨T, x, e, hT, eH, hu⟩ := hy
    subst e eH
    have := hu vs (SqL.of h1)
    rw [hv] at this
    cases this
    obtain ⟨q1, q2, q3⟩ := new_tup (κ := κ) (us := [.int (i : Nat), v]) (ds := [.int (i : Nat), xs[i]]) g1 hT (by show 2 ≤ sizeLine; decide) (.cons .int (.cons rv .nil))
    exact ⟨_, _, q1, q2, by rw [enumD_get 0 xs i _ (List.getElem?_eq_getElem hi), Nat.zero_add], q3⟩
  · rw [enumD_len] at hi
    have h1 : H1 a = some (.lst vs) := g1.gx (gr.g _ _ h) rfl
    exact ⟨vs, SqL.of h1, by rw [r.length]; omega⟩
theorem di_enum {p tpos : Pos} {elts : List Expr} {kk : Nat} (hg : Gl X "enumerate") (hm : X.mg "enumerate" = none) (ha : DA κ X [e] far) (hs : starEach [e] X.env = [(false, eval e X.env)] := by rfl) : DI0 κ X (.Tuple elts kk tpos) (.Call (.Name "enumerate" p) [e] [] pos) (iEnumD far) := by
  obtain ⟨ta, pa, qa⟩ := ha
  refine ⟨_, pi_enum hg hm pa hs, fun P G H σ env Q R g ev hf hR => ?_⟩
  refine qa P G H σ env _ _ g ev hf fun vs P1 G1 H1 ds gr g1 r hq => ?_
  unfold gEnumD at hq
  split at hq
  · obtain ⟨v, rfl, rv⟩ := val1 r
    cases rv with
    | lst h z r => exact ⟨_, _, rfl, SqL.of (g1.gx h rfl), hR _ P1 G1 H1 _ gr g1 (iter_enum g1 h z r) hq⟩
  · exact hq.elim
/-- zip(xs, ys) -/
def zipD : List D → List D → List D
  | x :: xs, y :: ys => .tup [x, y] :: zipD xs ys
  | _, _ => []
theorem zipD_len : ∀ xs ys : List D, (zipD xs ys).length = min xs.length ys.length
  | [], _ => by simp [zipD]
  | _ :: _, [] => by simp [zipD]
  | _ :: xs, _ :: ys => by simp only [zipD, List.length_cons, zipD_len]; omega
theorem zipD_get : ∀ (xs ys : List D) (i : Nat) (x y : D), xs[i]? = some x → ys[i]? = some y → (zipD xs ys)[i]? = some (.tup [x, y])
  | [], _, _, _, _, h, _ => by simp at h
  | _ :: _, [], _, _, _, _, h => by simp at h
  | x :: xs, y :: ys, 0, a, b, h, h' => by simp at h h'; subst h h'; rfl
  | x :: xs, y :: ys, i + 1, a, b, h, h' => by simpa [zipD] using zipD_get xs ys i a b (by simpa using h) (by simpa using h')
def gZipD (ds : List D) (m : Nat) (Q : List D → Nat → Prop) : Prop := match ds with
  | [.lst xs, .lst ys] => Q (zipD xs ys) m
  | [.tup xs, .tup ys] => Q (zipD xs ys) m
  | _ => False
@[simp] def iZipD (fa : FA) : FA := fun env n Q => fa env n fun ds m => gZipD ds m Q
theorem iter_zip {K : PySem.W.Frag} {P : Wd} {G H : Hp} {a b : Addr} {vs us : List V} {xs ys : List D} (g : Good κ P G H) (h : G a = some (.lst vs)) (h' : G b = some (.lst us)) (z : vs.length ≤ sizeLine) (r : Reps κ G P.iv vs xs) (r' : Reps κ G P.iv us ys) : IterD κ (Itz K a b) P G H (zipD xs ys) := by
  refine ⟨by rw [zipD_len, ← r.length]; exact Nat.le_trans (Nat.min_le_left _ _) z, fun i P1 G1 H1 gr g1 => ⟨fun hi => ?_, fun hi => ?_⟩⟩
  · rw [zipD_len] at hi
    have h1 : H1 a = some (.lst vs) := g1.gx (gr.g _ _ h) rfl
    have h2 : H1 b = some (.lst us) := g1.gx (gr.g _ _ h') rfl
    have hi1 : i < xs.length := by omega
    have hi2 : i < ys.length := by omega
    obtain ⟨v, hv, rv⟩ := (gr.reps r).get (List.getElem?_eq_getElem hi1)
    obtain ⟨u, hu, ru⟩ := (gr.reps r').get (List.getElem?_eq_getElem hi2)
    refine ⟨⟨vs, us, v, u, SqL.of h1, SqL.of h2, hv, hu⟩, fun w H2 hy => ?_⟩
    obtain ⟨T, x, y, e, hT, eH, hx, hy⟩ := hy
    subst e eH
    have e1 := hx vs (SqL.of h1)
    have e2 := hy us (SqL.of h2)
    rw [hv] at e1; cases e1
    rw [hu] at e2; cases e2
    obtain ⟨q1, q2, q3⟩ := new_tup (κ := κ) (us := [v, u]) (ds := [xs[i], ys[i]]) g1 hT (by show 2 ≤ sizeLine; decide) (.cons rv (.cons ru .nil))
    exact ⟨_, _, q1, q2, zipD_get xs ys i _ _ (List.getElem?_eq_getElem hi1) (List.getElem?_eq_getElem hi2), q3⟩
  · rw [zipD_len] at hi
    have h1 : H1 a = some (.lst vs) := g1.gx (gr.g _ _ h) rfl
    have h2 : H1 b = some (.lst us) := g1.gx (gr.g _ _ h') rfl
    exact ⟨vs, us, SqL.of h1, SqL.of h2, by rw [r.length, r'.length]; omega⟩
theorem iter_zipT {K : PySem.W.Frag} {P : Wd} {G H : Hp} {a b : Addr} {vs us : List V} {xs ys : List D} (g : Good κ P G H) (h : G a = some (.tup vs)) (h' : G b = some (.tup us)) (z : vs.length ≤ sizeLine) (r : Reps κ G P.iv vs xs) (r' : Reps κ G P.iv us ys) : IterD κ (RZ.ItzT K a b) P G H (zipD xs ys) := by
  refine ⟨by rw [zipD_len, ← r.length]; exact Nat.le_trans (Nat.min_le_left _ _) z, fun i P1 G1 H1 gr g1 => ⟨fun hi => ?_, fun hi => ?_⟩⟩
  · rw [zipD_len] at hi
    have h1 : H1 a = some (.tup vs) := g1.gx (gr.g _ _ h) rfl
    have h2 : H1 b = some (.tup us) := g1.gx (gr.g _ _ h') rfl
    have hi1 : i < xs.length := by omega
    have hi2 : i < ys.length := by omega
    obtain ⟨v, hv, rv⟩ := (gr.reps r).get (List.getElem?_eq_getElem hi1)
    obtain ⟨u, hu, ru⟩ := (gr.reps r').get (List.getElem?_eq_getElem hi2)
    refine ⟨⟨vs, us, v, u, SqT.of h1, SqT.of h2, hv, hu⟩, fun w H2 hy => ?_⟩
    obtain ⟨T, x, y, e, hT, eH, hx, hy⟩ := hy
    subst e eH
    have e1 := hx vs (SqT.of h1)
    have e2 := hy us (SqT.of h2)
    rw [hv] at e1; cases e1
    rw [hu] at e2; cases e2
    obtain ⟨q1, q2, q3⟩ := new_tup (κ := κ) (us := [v, u]) (ds := [xs[i], ys[i]]) g1 hT (by show 2 ≤ sizeLine; decide) (.cons rv (.cons ru .nil))
    exact ⟨_, _, q1, q2, zipD_get xs ys i _ _ (List.getElem?_eq_getElem hi1) (List.getElem?_eq_getElem hi2), q3⟩
  · rw [zipD_len] at hi
    have h1 : H1 a = some (.tup vs) := g1.gx (gr.g _ _ h) rfl
    have h2 : H1 b = some (.tup us) := g1.gx (gr.g _ _ h') rfl
    exact ⟨vs, us, SqT.of h1, SqT.of h2, by rw [r.length, r'.length]; omega⟩
theorem di_zip {p tpos : Pos} {elts : List Expr} {kk : Nat} (hg : Gl X "zip") (hm : X.mg "zip" = none) (ha : DA κ X [a, b] far) (hs : starEach [a, b] X.env = (false, eval a X.env) :: starEach [b] X.env := by rfl) (hpl : (backTo pos (starEach [b] X.env)).any (·.1) = false := by rfl) :
    DI0 κ X (.Tuple elts kk tpos) (.Call (.Name "zip" p) [a, b] [] pos) (iZipD far) := by
  obtain ⟨ta, pa, qa⟩ := ha
  refine ⟨_, RZ.pi_zipA hg hm pa hs hpl, fun P G H σ env Q R g ev hf hR => ?_⟩
  refine qa P G H σ env _ _ g ev hf fun vs P1 G1 H1 ds gr g1 r hq => ?_
  unfold gZipD at hq
  split at hq
  · obtain ⟨v, u, rfl, rv, ru⟩ := val2 r
    cases rv with
    | lst h z rx =>
      cases ru with
      | lst h' z' ry => exact ⟨_, _, _, _, rfl, .inl ⟨SqL.of (g1.gx h rfl), SqL.of (g1.gx h' rfl), hR _ P1 G1 H1 _ gr g1 (iter_zip g1 h h' z rx ry) hq⟩⟩
  · obtain ⟨v, u, rfl, rv, ru⟩ := val2 r
    cases rv with
    | tup h z rx =>
      cases ru with
      | tup h' z' ry => exact ⟨_, _, _, _, rfl, .inr ⟨SqT.of (g1.gx h rfl), SqT.of (g1.gx h' rfl), hR _ P1 G1 H1 _ gr g1 (iter_zipT g1 h h' z rx ry) hq⟩⟩
  · exact hq.elim

/-! ### targets -/
abbrev FG := D → DEnv → (DEnv → Prop) → Prop
def LiftG (κ : Kit) (g : TG) (sl : List Nat) (φ : FG) : Prop := ∀ (P : Wd) (G H : Hp) (v : V) (d : D) (σ : L2.St) (env : DEnv) (Q : DEnv → Prop) (R : L2.St → Hp → Prop), Good κ P G H → EnvR κ G P.iv σ env → Rep κ G P.iv v d → φ d env Q →
  (∀ σ' env', EnvR κ G P.iv σ' env' → (∀ vs : List Nat, (∀ i ∈ sl, i ∈ vs) → wipe σ' vs = wipe σ vs) → Q env' → R σ' H) → g v σ H R
abbrev FGs := List D → DEnv → (DEnv → Prop) → Prop
def LiftGs (κ : Kit) (g : TGs) (sl : List Nat) (φ : FGs) : Prop := ∀ (P : Wd) (G H : Hp) (v : List V) (d : List D) (σ : L2.St) (env : DEnv) (Q : DEnv → Prop) (R : L2.St → Hp → Prop), Good κ P G H → EnvR κ G P.iv σ env → Reps κ G P.iv v d → φ d env Q →
  (∀ σ' env', EnvR κ G P.iv σ' env' → (∀ vs : List Nat, (∀ i ∈ sl, i ∈ vs) → wipe σ' vs = wipe σ vs) → Q env' → R σ' H) → g v σ H R
theorem wipe_set {σ : L2.St} {i : Nat} {x : Option V} : ∀ vs : List Nat, wipe (σ.set i x) vs = if i ∈ vs then wipe σ vs else (wipe σ vs).set i x
  | [] => by simp [wipe]
  | v :: vs => by
    unfold wipe
    rw [wipe_set vs]
    by_cases h1 : i ∈ vs
    · rw [if_pos h1, if_pos (List.mem_cons_of_mem _ h1)]
    · rw [if_neg h1]
      by_cases h2 : i = v
      · subst h2
        rw [if_pos (List.mem_cons_self ..), List.set_set]
      · rw [if_neg (by simp [h1, h2]), List.set_comm _ _ h2]
theorem wipe_wipe (σ : L2.St) (vs : List Nat) : wipe (wipe σ vs) vs = wipe σ vs := by
  have key : ∀ us vs : List Nat, (∀ i ∈ us, i ∈ vs) → wipe (wipe σ us) vs = wipe σ vs := by
    intro us
    induction us with
    | nil => intro vs _; rfl
    | cons u us ih =>
      intro vs h
      rw [show wipe σ (u :: us) = (wipe σ us).set u none from rfl, wipe_set, if_pos (h u (List.mem_cons_self ..))]
      exact ih vs fun i hi => h i (List.mem_cons_of_mem _ hi)
  exact key vs vs fun _ h => h
theorem wipe_in {σ : L2.St} {i : Nat} {x : Option V} {vs : List Nat} (h : i ∈ vs) : wipe (σ.set i x) vs = wipe σ vs := by rw [wipe_set, if_pos h]
@[simp] def gN (i : Nat) : FG := fun d env Q => Q (env.set i (some d))
theorem lg_name (i : Nat) : LiftG κ (gName i) [i] (gN i) := fun P G H v d σ env Q R g ev r hf hR => hR _ _ (ev.set r) (fun vs h => wipe_in (h i (List.mem_singleton.mpr rfl))) hf
def gsNil : FGs := fun ds env Q => match ds with
  | [] => Q env
  | _ => False
def gsCons (φ : FG) (ψ : FGs) : FGs := fun ds env Q => match ds with
  | d :: r => φ d env fun env' => ψ r env' Q
  | [] => False
theorem lgs_nil : LiftGs κ gNil [] gsNil := fun P G H v d σ env Q R g ev r hf hR => by
  cases r with
  | nil => exact ⟨rfl, hR _ _ ev (fun _ _ => rfl) hf⟩
  | cons r t => exact False.elim hf
theorem lgs_cons {g : TG} {gs : TGs} {s1 s2 : List Nat} {φ : FG} {ψ : FGs} (h1 : LiftG κ g s1 φ) (h2 : LiftGs κ gs s2 ψ) : LiftGs κ (gCons g gs) (s1 ++ s2) (gsCons φ ψ) := fun P G H v d σ env Q R g ev r hf hR => by
  cases r with
  | nil => exact False.elim hf
  | @cons v0 d0 vs0 ds r t =>
    refine ⟨_, _, rfl, h1 P G H _ d0 σ env _ _ g ev r hf fun σ1 env1 ev1 w1 hf1 => ?_⟩
    exact h2 P G H _ ds σ1 env1 Q R g ev1 t hf1 fun σ2 env2 ev2 w2 hq => hR σ2 env2 ev2 (fun vs hvs => (w2 vs fun i hi => hvs i (List.mem_append_right _ hi)).trans (w1 vs fun i hi => hvs i (List.mem_append_left _ hi))) hq
def gT (n : Nat) (ψ : FGs) : FG := fun d env Q => match d with
  | .tup ds => ds.length = n ∧ ψ ds env Q
  | _ => False
theorem lg_tup {K : PySem.W.Frag} {n : Nat} {gs : TGs} {sl : List Nat} {ψ : FGs} (h : LiftGs κ gs sl ψ) : LiftG κ (gTup K n gs) sl (gT n ψ) := fun P G H v d σ env Q R g ev r hf hR => by
  unfold gT at hf
  split at hf
  · obtain ⟨hn, hf⟩ := hf
    cases r with
    | tup ht z r => exact ⟨_, _, rfl, SqT.of (g.gx ht rfl), by rw [r.length]; exact hn, h P G H _ _ σ env Q R g ev r hf hR⟩
  · exact hf.elim
/-- a target of the text and its data -/
def DG (κ : Kit) (X : Cx) (tg : Expr) (sl : List Nat) (φ : FG) : Prop := ∃ g, PG X tg g ∧ LiftG κ g sl φ
def DGs (κ : Kit) (X : Cx) (tgs : List Expr) (sl : List Nat) (ψ : FGs) : Prop := ∃ g, PGs X tgs g ∧ LiftGs κ g sl ψ
theorem dg_name (i : Nat) {x : Str} (hN : X.N.Nodup) (hi : X.N[i]? = some x) (hx : Loc X.env.scope x) (hf : X.fn x = true ∨ X.env.scope.names.lookup x = some .local := by first | exact .inl rfl | exact .inr rfl) : DG κ X (.Name x pos) [i] (gN i) :=
  ⟨_, pg_name hN hi hx hf, lg_name i⟩
theorem dgs_nil : DGs κ X [] [] gsNil := ⟨_, pgs_nil, lgs_nil⟩
theorem dgs_cons {s1 s2 : List Nat} {φ : FG} {ψ : FGs} (h1 : DG κ X e s1 φ) (h2 : DGs κ X es s2 ψ) (hs : (assignEach (e :: es) X.env).map (·.2) = assign e X.env :: (assignEach es X.env).map (·.2) := by rfl) : DGs κ X (e :: es) (s1 ++ s2) (gsCons φ ψ) := by
  obtain ⟨g, p, q⟩ := h1
  obtain ⟨gs, ps, qs⟩ := h2
  exact ⟨_, pgs_cons p ps hs, lgs_cons q qs⟩
theorem dg_tup {k n : Nat} {sl : List Nat} {ψ : FGs} (hc : X.calm = true) (h : DGs κ X es sl ψ) (hn : (assignEach es X.env).length = n := by rfl) (hst : (assignEach es X.env).findIdx? (·.1) = none := by rfl) : DG κ X (.Tuple es k pos) sl (gT n ψ) := by
  obtain ⟨gs, ps, qs⟩ := h
  exact ⟨_, pg_tup hc ps hn hst, lg_tup qs⟩

/-! ### comprehensions -/
@[simp] def wipeE (env : DEnv) : List Nat → DEnv
  | [] => env
  | v :: vs => (wipeE env vs).set v none
theorem EnvR.wipe {G : Hp} {iv : IV} {σ : L2.St} {env : DEnv} (ev : EnvR κ G iv σ env) : ∀ vs : List Nat, EnvR κ G iv (L2.wipe σ vs) (wipeE env vs)
  | [] => ev
  | v :: vs => (EnvR.wipe ev vs).setN
/-- the tests of a clause -/
def DTs (κ : Kit) (X : Cx) (ifs : List Expr) (f : FT) : Prop := ∃ t, PTs X ifs t ∧ RdT κ f t
@[simp] def tYesD : FT := fun _ n Q => Q true n
theorem dts_nil : DTs κ X [] tYesD := ⟨_, pts_nil, fun P G H σ env Q R g ev hf hR => hR true P G H .refl g hf⟩
theorem dts_one (h : DT κ X c t1) : DTs κ X [c] t1 := by
  obtain ⟨t, p, q⟩ := h
  exact ⟨_, pts_one p, q⟩
@[simp] def goD (tg : FG) (tt : FT) (te : FE) (env : DEnv) : List D → Nat → (List D → Nat → Prop) → Prop
  | [], n, Q => Q [] n
  | x :: xs, n, Q => tg x env fun env' => tt env' n fun b n1 => if b = true then te env' n1 fun y n2 => goD tg tt te env xs n2 fun ys n3 => Q (y :: ys) n3 else goD tg tt te env xs n1 Q
@[simp] def oComp (it : FA) (tg : FG) (tt : FT) (te : FE) (vs : List Nat) : FA := fun env n Q => it env n fun xs n1 => goD tg tt te (wipeE env vs) xs n1 Q
theorem lc_body {J : It} {S : Hp → Prop} {g : TG} {tt : TT} {te : TE} {vs sl : List Nat} {φ : FG} {P : Wd} {G H : Hp} {σ : L2.St} {env : DEnv} {Q : List D → Nat → Prop} {R : VK} {xs : List D} (g0 : Good κ P G H) (ev : EnvR κ G P.iv σ env) (it : IterS κ S J P G xs) (hS : ∀ P' G' H', Grow P G H P' G' H' → S H')
    (hg : LiftG κ g sl φ) (ht : RdT κ t1 tt) (he : RdE κ f te) (hsl : ∀ i ∈ sl, i ∈ vs) (hq : goD φ t1 f (wipeE env vs) xs P.n Q) (hR : LkO κ P G H Q R) :
    tLc (fun _ H R => R J H) g tt te vs σ H R := by
  intro Dl hD
  have hzl := it.1
  refine ⟨fun i m H' => ∃ P' G' acc accD, Grow P G H P' G' H' ∧ Good κ P' G' H' ∧ G' Dl = none ∧ P'.iv Dl = none ∧ H' Dl = some (.lst acc) ∧ Reps κ G' P'.iv acc accD ∧ acc.length ≤ i ∧ i ≤ xs.length ∧ m = xs.length - i ∧
    goD φ t1 f (wipeE env vs) (xs.drop i) P'.n (fun ys k => Q (accD ++ ys) k), ⟨xs.length, P, G, [], [], Grow.new hD, g0.new hD, g0.gnone hD, g0.inone hD, upd_same, .nil, Nat.le_refl _, Nat.zero_le _, rfl, hq⟩, ?_⟩
  rintro i m H' ⟨P', G', acc, accD, gr, g', hgD, hiD, hhD, ra, hle, hix, rfl, hgo⟩
  have evb := ev.grow gr
  by_cases hlt : i < xs.length
  · obtain ⟨go, yl⟩ := (it.2 i P' G' H' gr.ext g' (hS _ _ _ gr)).1 hlt
    refine .inr ⟨go, fun H2 => ∃ P2 G2 acc2 accD2, Grow P G H P2 G2 H2 ∧ Good κ P2 G2 H2 ∧ G2 Dl = none ∧ P2.iv Dl = none ∧ H2 Dl = some (.lst acc2) ∧ Reps κ G2 P2.iv acc2 accD2 ∧ acc2.length ≤ i + 1 ∧
      goD φ t1 f (wipeE env vs) (xs.drop (i + 1)) P2.n (fun ys k => Q (accD2 ++ ys) k), fun H2 hN => ?_, fun v H2 hy => ?_⟩
    · obtain ⟨P2, G2, acc2, accD2, q1, q2, q3, q4, q5, q6, q7, q8⟩ := hN
      exact ⟨xs.length - (i + 1), by omega, P2, G2, acc2, accD2, q1, q2, q3, q4, q5, q6, q7, hlt, rfl, q8⟩
    · obtain ⟨G2, d, gr2, g2, hxd, rd⟩ := yl v H2 hy
      have hdrop : xs.drop i = d :: xs.drop (i + 1) := by
        rw [List.drop_eq_getElem_cons hlt]
        rw [List.getElem?_eq_getElem hlt] at hxd
        cases hxd; rfl
      rw [hdrop] at hgo
      have evw : EnvR κ G2 P'.iv (L2.wipe σ vs) (wipeE env vs) := (evb.grow gr2).wipe vs
      have hH2D : H2 Dl = some (.lst acc) := gr2.h Dl _ hhD hiD
      have hG2D : G2 Dl = none := by rw [(gr2.fresh Dl _ hhD).2.2]; exact hgD
      refine hg P' G2 H2 v d (L2.wipe σ vs) (wipeE env vs) _ _ g2 evw rd hgo fun σ' env' ev' hw hf1 => ?_
      refine ⟨by rw [hw vs hsl]; exact wipe_wipe σ vs, ?_⟩
      refine ht P' G2 H2 σ' env' _ _ g2 ev' hf1 fun b P3 G3 H3 gr3 g3 hf2 => ?_
      have hH3D : H3 Dl = some (.lst acc) := gr3.h Dl _ hH2D hiD
      have hP3D : P3.iv Dl = none := by rw [(gr3.fresh Dl _ hH2D).1]; exact hiD
      have hG3D : G3 Dl = none := by rw [(gr3.fresh Dl _ hH2D).2.2]; exact hG2D
      cases b with
      | false => exact ⟨P3, G3, acc, accD, (gr.trans gr2).trans gr3, g3, hG3D, hP3D, hH3D, gr3.reps (gr2.reps ra), Nat.le_succ_of_le hle, hf2⟩
      | true =>
        refine he P3 G3 H3 σ' env' _ _ g3 (ev'.grow gr3) hf2 fun y P4 G4 H4 dy gr4 g4 ry hf3 => ?_
        have hH4D : H4 Dl = some (.lst acc) := gr4.h Dl _ hH3D hP3D
        have hP4D : P4.iv Dl = none := by rw [(gr4.fresh Dl _ hH3D).1]; exact hP3D
        have hG4D : G4 Dl = none := by rw [(gr4.fresh Dl _ hH3D).2.2]; exact hG3D
        refine ⟨acc, hH4D, by omega, P4, G4, acc ++ [y], accD ++ [dy], (((gr.trans gr2).trans gr3).trans gr4).put hD, g4.put hG4D hP4D, hG4D, hP4D, upd_same, (gr4.reps (gr3.reps (gr2.reps ra))).append (.cons ry .nil), by rw [List.length_append]; exact Nat.succ_le_succ hle, ?_⟩
        simpa only [List.append_assoc, List.singleton_append] using hf3
  · have e : i = xs.length := by omega
    subst e
    refine .inl ⟨(it.2 _ P' G' H' gr.ext g' (hS _ _ _ gr)).2 rfl, ?_⟩
    rw [List.drop_length] at hgo
    have hq' : Q accD P'.n := by simpa [goD] using hgo
    exact hR Dl P' G' H' acc accD gr g' hD hgD hiD hhD (by omega) ra hq'
theorem lc_lift {w : TI} {g : TG} {tt : TT} {te : TE} {vs sl : List Nat} {φ : FG} (hi : RdJ κ far w) (hg : LiftG κ g sl φ) (ht : RdT κ t1 tt) (he : RdE κ f te) (hsl : ∀ i ∈ sl, i ∈ vs) : RdO κ (oComp far φ t1 f vs) (tLk (tLc w g tt te vs)) := by
  intro P G H σ env Q R good ev hf hR
  rcases hi P G H σ env _ good ev hf with hi | ⟨a, u, hGa, hdk, hi⟩
  · refine .inr (hi _ fun J Pb Gb Hb xs gr0 gb it hq => ?_)
    exact lc_body gb (ev.grow gr0) it.s (fun _ _ _ _ => trivial) hg ht he hsl hq (hR.grow gr0)
  · have hia : P.iv a = none := by
      cases e : P.iv a with
      | none => rfl
      | some t => rw [(good.gi a t e).1] at hGa; cases hGa
    rcases good.gh a u hGa with hHa | ⟨_, od, hHa⟩
    · refine .inl ⟨a, u, hHa, dk_mut hdk, fun od => ?_⟩
      have gl : Good κ P G (upd H a (.frz od u)) := good.lock hGa hdk
      refine hi od _ upd_same gl _ fun J xs it hq => ?_
      refine lc_body (H := upd H a (.frz od u)) (R := fun v H' => H' a = some (.frz od u) ∧ R v (upd H' a u)) gl ev it (fun P' G' H' gr => gr.h a _ upd_same hia) hg ht he hsl hq ?_
      intro b P' G' H' vs' xs' gr g' hb hgb hib hhb hz r hq'
      have hba : b ≠ a := fun e => by subst e; rw [upd_same] at hb; cases hb
      rw [upd_ne hba] at hb
      refine ⟨gr.h a _ upd_same hia, ?_⟩
      exact hR b P' G' (upd H' a u) vs' xs' (Grow.unlock hHa gr) (g'.unlock (gr.g _ _ hGa)) hb hgb hib (by rw [upd_ne hba]; exact hhb) hz r hq'
    · refine .inr (hi od H hHa good _ fun J xs it hq => ?_)
      exact lc_body good ev it (fun P' G' H' gr => gr.h a _ hHa hia) hg ht he hsl hq hR
/-- the readings that hang on the data alone -/
def tE (κ : Kit) (f : FE) : TE := fun σ H R => ∃ (P : Wd) (G : Hp) (env : DEnv) (Q : D → Nat → Prop), Good κ P G H ∧ EnvR κ G P.iv σ env ∧ f env P.n Q ∧ Lk κ P G H Q R
def tT (κ : Kit) (f : FT) : TT := fun σ H R => ∃ (P : Wd) (G : Hp) (env : DEnv) (Q : Bool → Nat → Prop), Good κ P G H ∧ EnvR κ G P.iv σ env ∧ f env P.n Q ∧ LkT κ P G H Q R
def tG (κ : Kit) (sl : List Nat) (φ : FG) : TG := fun v σ H R => ∃ (P : Wd) (G : Hp) (d : D) (env : DEnv) (Q : DEnv → Prop), Good κ P G H ∧ EnvR κ G P.iv σ env ∧ Rep κ G P.iv v d ∧ φ d env Q ∧
  (∀ σ' env', EnvR κ G P.iv σ' env' → (∀ vs : List Nat, (∀ i ∈ sl, i ∈ vs) → wipe σ' vs = wipe σ vs) → Q env' → R σ' H)
theorem DE.can {Y : Cx} (h : DE κ Y e f) : PE Y e (tE κ f) := by
  obtain ⟨t, p, q⟩ := h
  exact ⟨fun pins s σ H R I ⟨P, G, env, Q, g, ev, hf, hR⟩ => p.run pins s σ H R I (q P G H σ env Q R g ev hf hR)⟩
theorem DTs.can {Y : Cx} {ifs : List Expr} (h : DTs κ Y ifs t1) : PTs Y ifs (tT κ t1) := by
  obtain ⟨t, p, q⟩ := h
  exact ⟨fun pins s σ H R I ⟨P, G, env, Q, g, ev, hf, hR⟩ => p.run pins s σ H R I (q P G H σ env Q R g ev hf hR)⟩
theorem DG.can {Y : Cx} {sl : List Nat} {φ : FG} (h : DG κ Y tg sl φ) : PG Y tg (tG κ sl φ) := by
  obtain ⟨t, p, q⟩ := h
  exact ⟨fun pins s σ H v u R I r ⟨P, G, d, env, Q, g, ev, rd, hf, hR⟩ => p.run pins s σ H v u R I r (q P G H v d σ env Q R g ev rd hf hR)⟩
theorem rd_tE : RdE κ f (tE κ f) := fun P G H σ env Q R g ev hf hR => ⟨P, G, env, Q, g, ev, hf, hR⟩
theorem rd_tT : RdT κ t1 (tT κ t1) := fun P G H σ env Q R g ev hf hR => ⟨P, G, env, Q, g, ev, hf, hR⟩
theorem rd_tG {sl : List Nat} {φ : FG} : LiftG κ (tG κ sl φ) sl φ := fun P G H v d σ env Q R g ev r hf hR => ⟨P, G, d, env, Q, g, ev, r, hf, hR⟩
theorem do_comp {iter tg elt : Expr} {ifs : List Expr} {scope : Scope} (own : List (Str × Nat)) {sl : List Nat} {φ : FG} (hc : X.calm = true) (hN : X.N.Nodup) (hi : DI κ X tg iter far) (ok : blkC X.N X.env.scope scope own = true)
    (hg : ∀ (s : Shared) (H : Hp) (C : Addr) (cl : List (Str × Addr)) (fp : List Addr), DG κ (X.blk s H scope (compEnvC scope cl C X.env) fp) tg sl φ)
    (ht : ∀ (s : Shared) (H : Hp) (C : Addr) (cl : List (Str × Addr)) (fp : List Addr), DTs κ (X.blk s H scope (compEnvC scope cl C X.env) fp) ifs t1)
    (he : ∀ (s : Shared) (H : Hp) (C : Addr) (cl : List (Str × Addr)) (fp : List Addr), DE κ (X.blk s H scope (compEnvC scope cl C X.env) fp) elt f)
    (hsl : ∀ i ∈ sl, i ∈ own.map (·.2) := by decide) (hs : ∀ x, foldedSetIterable iter X.env x = pure x := by intro _; rfl) : DO κ X (.ListComp elt [⟨tg, iter, ifs, 0⟩] scope pos) (oComp far φ t1 f (own.map (·.2))) := by
  obtain ⟨w, pw, qw⟩ := hi
  exact ⟨_, PE.lk (pe_lc hc hN pw (blkOk_by ok) (fun s H C cl fp => (hg s H C cl fp).can) (fun s H C cl fp => (ht s H C cl fp).can) (fun s H C cl fp => (he s H C cl fp).can) hs), lc_lift qw rd_tG rd_tT rd_tE hsl⟩

/-! ### a name walked: a list, a tuple, a text, a dict's keys -/
def gSeqN (x : D) (m : Nat) (Q : List D → Nat → Prop) : Prop := match x with
  | .lst xs => Q xs m
  | .tup xs => Q xs m
  | .str s => Q (s.map fun c => .str [c]) m
  | .dct ks _ => Q ks m
  | _ => False
@[simp] def iSeqN (i : Nat) : FA := fun env n Q => ∃ d, env[i]? = some (some d) ∧ gSeqN d n Q
theorem keysV {k : Key} {G : Hp} {iv : IV} (h : OkK k) : Rep κ G iv (kV k) (keyD k) := by
  cases k with
  | inl i => exact .int
  | inr x => exact .str (s := x.cps.toList) h
theorem di_name {i : Nat} {x : Str} (hN : X.N[i]? = some x) (hv : Vis X.env.scope x) (hd : (x == ("__debug__" : Str)) = false := by decide) (hcd : (x == ("__classdict__" : Str)) = false := by decide) : DI κ X tg (.Name x pos) (iSeqN i) := by
  refine ⟨_, PI.or (pi_any (pe_var hN hv hd hcd)) (pi_keys (pe_var hN hv hd hcd)), fun P G H σ env Q g ev hf => ?_⟩
  obtain ⟨d, he, hq⟩ := hf
  obtain ⟨v, h1, r⟩ := ev.get i d he
  unfold gSeqN at hq
  split at hq
  · cases r with
    | lst h z r => exact .inl fun R hR => .inl ⟨_, h1, .inl ⟨_, rfl, ⟨_, SqL.of (g.gx h rfl)⟩, hR _ P G H _ .refl g (iter_list g h z r) hq⟩⟩
  · cases r with
    | tup h z r => exact .inl fun R hR => .inl ⟨_, h1, .inr (.inl ⟨_, rfl, ⟨_, SqT.of (g.gx h rfl)⟩, hR _ P G H _ .refl g (iter_tup g h z r) hq⟩)⟩
  · cases r with
    | str h => exact .inl fun R hR => .inl ⟨_, h1, .inr (.inr ⟨_, rfl, hR _ P G H _ .refl g (iter_str h) hq⟩)⟩
  · cases r with
    | @dctK a kk us vs h hl z nd r =>
      refine .inr ⟨a, _, h, rfl, fun od H1 hH1 g1 R hR => .inr ⟨_, h1, a, od, rfl, .inl ⟨_, hH1, hR _ _ ⟨by rw [List.length_map]; exact z, fun j P1 G1 H2 ex g2 hS => ⟨fun hj => ?_, fun hj => ?_⟩⟩ hq⟩⟩⟩
      · rw [List.length_map] at hj
        refine ⟨⟨hS, by rw [List.length_zip, ← hl, Nat.min_self]; exact hj⟩, fun v H3 hy => ?_⟩
        obtain ⟨rfl, k, w, e1, rfl⟩ := hy
        have hk : kk[j]? = some k := by
          rw [List.getElem?_zip_eq_some] at e1
          exact e1.1
        exact ⟨G1, keyD k, .refl, g2, by rw [List.getElem?_map, hk]; rfl, keysV (nd.2 k (List.mem_of_getElem? hk))⟩
      · rw [List.length_map] at hj
        exact ⟨hS, by rw [List.length_zip, ← hl, Nat.min_self]; omega⟩
  · exact hq.elim
end
end DL

/-! ## DL9 -/
/-! DL9: statements over data, defs by their contracts -/
namespace DL
open PySem PySem.Spec PyProof.Rows L2
/-- what a slot holds: a value; a list, a dict of this def's own -/
inductive Sl where
  | val (d : D) | own (xs : List D) | ownd (ks vs : List D)
def Sl.view : Sl → D
  | .val d => d | .own xs => .lst xs | .ownd ks vs => .dct ks vs
def Sl.hide : Sl → Option D
  | .val d => some d | _ => none
@[simp] theorem view_val (d : D) : (Sl.val d).view = d := rfl
@[simp] theorem view_own (d : List D) : (Sl.own d).view = .lst d := rfl
@[simp] theorem view_ownd (d e : List D) : (Sl.ownd d e).view = .dct d e := rfl
@[simp] theorem hide_val (d : D) : (Sl.val d).hide = some d := rfl
@[simp] theorem hide_own (d : List D) : (Sl.own d).hide = none := rfl
@[simp] theorem hide_ownd (d e : List D) : (Sl.ownd d e).hide = none := rfl
abbrev SEnv := List (Option Sl)
@[simp] def view (env : SEnv) : DEnv := env.map fun o => o.map Sl.view
@[simp] def hide (env : SEnv) : DEnv := env.map fun o => o.bind Sl.hide
/-- a private list, a private dict -/
def OwnL (κ : Kit) (H0 : Hp) (P : Wd) (G H : Hp) (a : Addr) (xs : List D) : Prop := ∃ vs, H a = some (.lst vs) ∧ vs.length ≤ sizeLine ∧ H0 a = none ∧ G a = none ∧ P.iv a = none ∧ Reps κ G P.iv vs xs
def OwnD (κ : Kit) (H0 : Hp) (P : Wd) (G H : Hp) (a : Addr) (ks vs : List D) : Prop := ∃ (kk : List Key) (us : List V), H a = some (.dK (kk.zip us)) ∧ kk.length = us.length ∧ kk.length ≤ sizeLine ∧ OkKs kk ∧ ks = kk.map keyD ∧ H0 a = none ∧ G a = none ∧ P.iv a = none ∧ Reps κ G P.iv us vs
/-- what stands for a slot's data -/
def SlR (κ : Kit) (H0 : Hp) (P : Wd) (G H : Hp) (v : V) : Sl → Prop
  | .val d => Rep κ G P.iv v d
  | .own xs => ∃ a, v = .ref a ∧ OwnL κ H0 P G H a xs
  | .ownd ks vs => ∃ a, v = .ref a ∧ OwnD κ H0 P G H a ks vs
def isOwn : Sl → Bool
  | .val _ => false | _ => true
structure SEnvR (κ : Kit) (H0 : Hp) (P : Wd) (G H : Hp) (σ : L2.St) (env : SEnv) : Prop where
  len : env.length = σ.length
  get : ∀ (i : Nat) (s : Sl), env[i]? = some (some s) → ∃ v : V, σ[i]? = some (some v) ∧ SlR κ H0 P G H v s
  apart : ∀ (i j : Nat) (s t : Sl) (a : Addr), i ≠ j → env[i]? = some (some s) → env[j]? = some (some t) → isOwn s = true → isOwn t = true → σ[i]? = some (some (V.ref a)) → σ[j]? = some (some (V.ref a)) → False
section
variable {κ : Kit} {H0 : Hp} {P P' : Wd} {G G' H H' : Hp} {σ : L2.St} {env : SEnv} {a : Addr} {xs ks vs : List D} {v : V} {s : Sl}
theorem OwnL.grow (o : OwnL κ H0 P G H a xs) (gr : Grow P G H P' G' H') : OwnL κ H0 P' G' H' a xs := by
  obtain ⟨vs, h1, h2, h3, h4, h5, h6⟩ := o
  obtain ⟨f1, f2, f3⟩ := gr.fresh a _ h1
  exact ⟨vs, gr.h a _ h1 h5, h2, h3, by rw [f3]; exact h4, by rw [f1]; exact h5, gr.reps h6⟩
theorem OwnD.grow (o : OwnD κ H0 P G H a ks vs) (gr : Grow P G H P' G' H') : OwnD κ H0 P' G' H' a ks vs := by
  obtain ⟨kk, us, h1, hl, hz, hn, hk, h3, h4, h5, h6⟩ := o
  obtain ⟨f1, f2, f3⟩ := gr.fresh a _ h1
  exact ⟨kk, us, gr.h a _ h1 h5, hl, hz, hn, hk, h3, by rw [f3]; exact h4, by rw [f1]; exact h5, gr.reps h6⟩
theorem SlR.grow (o : SlR κ H0 P G H v s) (gr : Grow P G H P' G' H') : SlR κ H0 P' G' H' v s := by
  cases s with
  | val d => exact gr.rep o
  | own xs => obtain ⟨a, e, o⟩ := o; exact ⟨a, e, o.grow gr⟩
  | ownd ks vs => obtain ⟨a, e, o⟩ := o; exact ⟨a, e, o.grow gr⟩
theorem SEnvR.grow (ev : SEnvR κ H0 P G H σ env) (gr : Grow P G H P' G' H') : SEnvR κ H0 P' G' H' σ env :=
  ⟨ev.len, fun i s h => by obtain ⟨v, h1, h2⟩ := ev.get i s h; exact ⟨v, h1, h2.grow gr⟩, ev.apart⟩
theorem SEnvR.hide (ev : SEnvR κ H0 P G H σ env) : EnvR κ G P.iv σ (hide env) :=
  ⟨by unfold DL.hide; rw [List.length_map]; exact ev.len, fun i d h => by
    unfold DL.hide at h
    rw [List.getElem?_map] at h
    cases e : env[i]? with
    | none => rw [e] at h; cases h
    | some o =>
      rw [e] at h
      cases o with
      | none => simp at h
      | some s =>
        cases s with
        | val d' =>
          simp [Sl.hide] at h
          subst h
          exact ev.get i _ e
        | own xs => simp [Sl.hide] at h
        | ownd ks vs => simp [Sl.hide] at h⟩
/-- no slot's own list -/
def Priv (env : SEnv) (σ : L2.St) (a : Addr) : Prop := ∃ (i : Nat) (s : Sl), env[i]? = some (some s) ∧ isOwn s = true ∧ σ[i]? = some (some (V.ref a))
open Classical in
/-- the frozen part, the slots' own lists lent -/
noncomputable def lent (env : SEnv) (σ : L2.St) (G H : Hp) : Hp := fun a => if Priv env σ a then H a else G a
theorem SEnvR.priv (ev : SEnvR κ H0 P G H σ env) (h : Priv env σ a) : H0 a = none ∧ G a = none ∧ P.iv a = none ∧ ∃ o, H a = some o := by
  obtain ⟨i, s, h1, h2, h3⟩ := h
  obtain ⟨v, q1, q2⟩ := ev.get i s h1
  rw [h3] at q1
  cases q1
  cases s with
  | val d => cases h2
  | own xs =>
    obtain ⟨b, e, vs, h1, h2, h3, h4, h5, h6⟩ := q2
    cases e
    exact ⟨h3, h4, h5, _, h1⟩
  | ownd ks vs =>
    obtain ⟨b, e, kk, us, h1, hl, hz, hn, hk, h3, h4, h5, h6⟩ := q2
    cases e
    exact ⟨h3, h4, h5, _, h1⟩
theorem lent_sub (ev : SEnvR κ H0 P G H σ env) : ∀ a o, G a = some o → lent env σ G H a = some o := fun a o h => by
  unfold lent
  by_cases hp : Priv env σ a
  · rw [(ev.priv hp).2.1] at h; cases h
  · rw [if_neg hp]; exact h
theorem lent_good (ev : SEnvR κ H0 P G H σ env) (g : Good κ P G H) : Good κ P (lent env σ G H) H where
  pg := fun a o h => lent_sub ev a o (g.pg a o h)
  gh := fun a o h => by
    unfold lent at h
    by_cases hp : Priv env σ a
    · rw [if_pos hp] at h; exact .inl h
    · rw [if_neg hp] at h; exact g.gh a o h
  gi := fun a t h => by
    obtain ⟨q1, o, q2, q3⟩ := g.gi a t h
    refine ⟨?_, o, q2, q3⟩
    unfold lent
    rw [if_neg fun hp => by rw [(ev.priv hp).2.2.1] at h; cases h]
    exact q1
theorem lent_priv (h : Priv env σ a) : lent env σ G H a = H a := by unfold lent; rw [if_pos h]
theorem SEnvR.view (ev : SEnvR κ H0 P G H σ env) : EnvR κ (lent env σ G H) P.iv σ (view env) :=
  ⟨by unfold DL.view; rw [List.length_map]; exact ev.len, fun i d h => by
    unfold DL.view at h
    rw [List.getElem?_map] at h
    cases e : env[i]? with
    | none => rw [e] at h; cases h
    | some o =>
      rw [e] at h
      cases o with
      | none => simp at h
      | some s =>
        simp at h
        subst h
        obtain ⟨v, q1, q2⟩ := ev.get i s e
        refine ⟨v, q1, ?_⟩
        cases s with
        | val d => exact Rep.mono (lent_sub ev) (fun _ _ h => h) q2
        | own xs =>
          obtain ⟨a, ea, vs, h1, h2, h3, h4, h5, h6⟩ := q2
          subst ea
          exact .lst (by rw [lent_priv ⟨i, _, e, rfl, q1⟩]; exact h1) h2 (Reps.mono (lent_sub ev) (fun _ _ h => h) h6)
        | ownd ks vs =>
          obtain ⟨a, ea, kk, us, h1, hl, hz, hn, hk, h3, h4, h5, h6⟩ := q2
          subst ea
          subst hk
          exact .dctK (by rw [lent_priv ⟨i, _, e, rfl, q1⟩]; exact h1) hl hz hn (Reps.mono (lent_sub ev) (fun _ _ h => h) h6)⟩
/-- the frozen part behind a loan -/
def back (G : Hp) (fz : Hp) : Hp := fun a => match G a with | some o => some o | none => fz a
theorem back_g (h : G a = some o) {fz : Hp} : back G fz a = some o := by unfold back; rw [h]
theorem Reps.flat {iv : IV} : ∀ {vs : List V} {ds : List D}, Reps κ G iv vs ds → ds.all flatD = true → Reps κ G' iv vs ds
  | _, _, .nil, _ => .nil
  | _, _, .cons r t, h => by
    simp only [List.all_cons, Bool.and_eq_true] at h
    refine .cons ?_ (Reps.flat t h.2)
    cases r <;> first | exact .non | exact .bl | exact .int | (rename_i hs; exact .str hs) | (exact absurd h.1 (by simp [flatD]))
theorem Rep.flat {iv : IV} {d : D} (r : Rep κ G iv v d) (h : flatD d = true) : Rep κ G' iv v d := by
  have := Reps.flat (G' := G') (Reps.cons r .nil) (by simp [h])
  cases this with | cons r _ => exact r
theorem back_grow (ev : SEnvR κ H0 P G H σ env) (g : Good κ P G H) (gr : Grow P (lent env σ G H) H P' G' H') (g' : Good κ P' G' H') : Grow P G H P' (back G P'.fz) H' ∧ Good κ P' (back G P'.fz) H' := by
  have hsub : ∀ a o, back G P'.fz a = some o → G' a = some o := fun a o h => by
    unfold back at h
    cases e : G a with
    | none => rw [e] at h; exact g'.pg a o h
    | some u => rw [e] at h; cases h; exact gr.g a _ (lent_sub ev a _ e)
  refine ⟨⟨gr.fz, gr.iv, gr.n, fun a o h => back_g h, gr.h, gr.dom, fun a o h => ?_⟩, ⟨fun a o h => ?_, fun a o h => g'.gh a o (hsub a o h), fun a t h => ?_⟩⟩
  · obtain ⟨f1, f2, f3⟩ := gr.fresh a o h
    refine ⟨f1, f2, ?_⟩
    unfold back
    cases e : G a with
    | none => rw [f2]; exact g.fnone e
    | some u => rfl
  · unfold back
    cases e : G a with
    | none => exact h
    | some u =>
      have h1 := g'.pg a o h
      rw [gr.g a _ (lent_sub ev a _ e)] at h1
      exact h1
  · obtain ⟨q1, o, q2, q3⟩ := g'.gi a t h
    refine ⟨?_, o, q2, q3⟩
    cases e : back G P'.fz a with
    | none => rfl
    | some u => rw [hsub a u e] at q1; cases q1
end
end DL

/-! ## DL10 -/
/-! DL10: statements -/
namespace DL
open PySem PySem.Spec PyProof.Rows L2
structure DEnds where
  nx : SEnv → Nat → Prop
  rt : Sl → Nat → Prop
  bk : SEnv → Nat → Prop := fun _ _ => False
  ct : SEnv → Nat → Prop := fun _ _ => False
abbrev FS := DEnds → SEnv → Nat → Prop
abbrev OkN (κ : Kit) (P0 : Wd) (G0 H0 : Hp) (n : SEnv → Nat → Prop) (e : L2.St → Hp → Prop) : Prop := ∀ P G H σ env, Grow P0 G0 H0 P G H → Good κ P G H → SEnvR κ H0 P G H σ env → n env P.n → e σ H
structure EndsOk (κ : Kit) (P0 : Wd) (G0 H0 : Hp) (D : DEnds) (E : Ends) : Prop where
  nx : OkN κ P0 G0 H0 D.nx E.nx
  rt : ∀ v s P G H, Grow P0 G0 H0 P G H → Good κ P G H → SlR κ H0 P G H v s → D.rt s P.n → E.rt v H
  bk : OkN κ P0 G0 H0 D.bk E.bk
  ct : OkN κ P0 G0 H0 D.ct E.ct
abbrev RdS (κ : Kit) (f : FS) (t : TS) : Prop := ∀ (P0 : Wd) (G0 H0 : Hp) (P : Wd) (G H : Hp) (σ : L2.St) (env : SEnv) (D : DEnds) (E : Ends), Grow P0 G0 H0 P G H → Good κ P G H → SEnvR κ H0 P G H σ env → f D env P.n → EndsOk κ P0 G0 H0 D E → t E σ H
def D1 (κ : Kit) (X : Cx) (st : Stmt) (f : FS) : Prop := ∃ t, PS X st t ∧ RdS κ f t
def DS (κ : Kit) (X : Cx) (st : List Stmt) (f : FS) : Prop := ∃ t, PSs X st t ∧ RdS κ f t
section
variable {κ : Kit} {X : Cx} {H0 : Hp} {P : Wd} {G H : Hp} {σ : L2.St} {env : SEnv} {e : Expr} {st : Stmt} {sts : List Stmt} {f : FE} {fo : FA} {ft : FT} {s1 s2 : FS} {te : TE} {tt : TT} {pos : Pos} {es : List Expr} {far : FA}
/-! ### the three ways to look at an expression from a statement -/
theorem at_hide {Q : D → Nat → Prop} {R : VK} (h : RdE κ f te) (g : Good κ P G H) (ev : SEnvR κ H0 P G H σ env) (hf : f (hide env) P.n Q)
    (hR : ∀ v P' G' H' d, Grow P G H P' G' H' → Good κ P' G' H' → SEnvR κ H0 P' G' H' σ env → Rep κ G' P'.iv v d → Q d P'.n → R v H') : te σ H R :=
  h P G H σ _ Q R g ev.hide hf fun v P' G' H' d gr g' r q => hR v P' G' H' d gr g' (ev.grow gr) r q
theorem at_view {Q : D → Nat → Prop} {R : VK} (h : RdE κ f te) (g : Good κ P G H) (ev : SEnvR κ H0 P G H σ env) (hf : f (view env) P.n fun d m => flatD d = true ∧ Q d m)
    (hR : ∀ v P' G' H' d, Grow P G H P' G' H' → Good κ P' G' H' → SEnvR κ H0 P' G' H' σ env → Rep κ G' P'.iv v d → Q d P'.n → R v H') : te σ H R :=
  h P (lent env σ G H) H σ _ _ R (lent_good ev g) ev.view hf fun v P' G' H' d gr g' r q => by
    obtain ⟨gr2, g2⟩ := back_grow ev g gr g'
    exact hR v P' _ H' d gr2 g2 (ev.grow gr2) (r.flat q.1) q.2
theorem at_test {Q : Bool → Nat → Prop} {R : Bool → Hp → Prop} (h : RdT κ ft tt) (g : Good κ P G H) (ev : SEnvR κ H0 P G H σ env) (hf : ft (view env) P.n Q)
    (hR : ∀ b P' G' H', Grow P G H P' G' H' → Good κ P' G' H' → SEnvR κ H0 P' G' H' σ env → Q b P'.n → R b H') : tt σ H R :=
  h P (lent env σ G H) H σ _ _ R (lent_good ev g) ev.view hf fun b P' G' H' gr g' q => by
    obtain ⟨gr2, g2⟩ := back_grow ev g gr g'
    exact hR b P' _ H' gr2 g2 (ev.grow gr2) q
theorem own_of {P' : Wd} {G' H' : Hp} {a : Addr} {vs : List V} {xs : List D} (h1 : H0 a = none) (h2 : G' a = none) (h3 : P'.iv a = none) (h4 : H' a = some (.lst vs)) (h5 : vs.length ≤ sizeLine) (h6 : Reps κ G' P'.iv vs xs) : OwnL κ H0 P' G' H' a xs := ⟨vs, h4, h5, h1, h2, h3, h6⟩
theorem at_hideO {Q : List D → Nat → Prop} {R : VK} (h : RdO κ fo te) (g : Good κ P G H) (ev : SEnvR κ H0 P G H σ env) (h0 : ∀ a, H a = none → H0 a = none) (hf : fo (hide env) P.n Q)
    (hR : ∀ a P' G' H' xs, Grow P G H P' G' H' → Good κ P' G' H' → SEnvR κ H0 P' G' H' σ env → H a = none → OwnL κ H0 P' G' H' a xs → Q xs P'.n → R (.ref a) H') : te σ H R :=
  h P G H σ _ Q R g ev.hide hf fun a P' G' H' vs xs gr g' ha hg hi hh hz r q => hR a P' G' H' xs gr g' (ev.grow gr) ha (own_of (h0 a ha) hg hi hh hz r) q
theorem at_viewO {Q : List D → Nat → Prop} {R : VK} (h : RdO κ fo te) (g : Good κ P G H) (ev : SEnvR κ H0 P G H σ env) (h0 : ∀ a, H a = none → H0 a = none) (hf : fo (view env) P.n fun xs m => xs.all flatD = true ∧ Q xs m)
    (hR : ∀ a P' G' H' xs, Grow P G H P' G' H' → Good κ P' G' H' → SEnvR κ H0 P' G' H' σ env → H a = none → OwnL κ H0 P' G' H' a xs → Q xs P'.n → R (.ref a) H') : te σ H R :=
  h P (lent env σ G H) H σ _ _ R (lent_good ev g) ev.view hf fun a P' G' H' vs xs gr g' ha hg hi hh hz r q => by
    obtain ⟨gr2, g2⟩ := back_grow ev g gr g'
    have hb : back G P'.fz a = none := by
      unfold back
      rw [g.gnone ha]
      exact g'.fnone hg
    exact hR a P' _ H' xs gr2 g2 (ev.grow gr2) ha (own_of (h0 a ha) hb hi hh hz (r.flat q.1)) q.2

/-! ### slots -/
theorem SEnvR.set (ev : SEnvR κ H0 P G H σ env) {i : Nat} {v : V} {d : D} (r : Rep κ G P.iv v d) : SEnvR κ H0 P G H (σ.set i (some v)) (env.set i (some (.val d))) where
  len := by rw [List.length_set, List.length_set]; exact ev.len
  get := fun j s h => by
    by_cases hij : i = j
    · subst hij
      rw [List.getElem?_set] at h
      simp only [if_true] at h
      split at h
      · cases h
        exact ⟨v, by rw [List.getElem?_set]; simp only [if_true]; rw [if_pos (by rw [← ev.len]; assumption)], r⟩
      · cases h
    · rw [List.getElem?_set_ne hij] at h ⊢
      exact ev.get j s h
  apart := fun j k s t a hjk h1 h2 o1 o2 e1 e2 => by
    have nj : i ≠ j := fun e => by
      subst e
      rw [List.getElem?_set] at h1
      simp only [if_true] at h1
      split at h1
      · cases h1; cases o1
      · cases h1
    have nk : i ≠ k := fun e => by
      subst e
      rw [List.getElem?_set] at h2
      simp only [if_true] at h2
      split at h2
      · cases h2; cases o2
      · cases h2
    rw [List.getElem?_set_ne nj] at h1 e1
    rw [List.getElem?_set_ne nk] at h2 e2
    exact ev.apart j k s t a hjk h1 h2 o1 o2 e1 e2
/-- a list that no slot owns -/
def NewTo (env : SEnv) (σ : L2.St) (a : Addr) : Prop := ¬ Priv env σ a
theorem SEnvR.setO (ev : SEnvR κ H0 P G H σ env) {i : Nat} {a : Addr} {s : Sl} (r : SlR κ H0 P G H (.ref a) s) (hn : ¬ Priv env σ a) : SEnvR κ H0 P G H (σ.set i (some (.ref a))) (env.set i (some s)) where
  len := by rw [List.length_set, List.length_set]; exact ev.len
  get := fun j s' h => by
    by_cases hij : i = j
    · subst hij
      rw [List.getElem?_set] at h
      simp only [if_true] at h
      split at h
      · cases h
        exact ⟨.ref a, by rw [List.getElem?_set]; simp only [if_true]; rw [if_pos (by rw [← ev.len]; assumption)], r⟩
      · cases h
    · rw [List.getElem?_set_ne hij] at h ⊢
      exact ev.get j s' h
  apart := fun j k s' t b hjk h1 h2 o1 o2 e1 e2 => by
    by_cases nj : i = j
    · subst nj
      have nk : i ≠ k := hjk
      rw [List.getElem?_set_ne nk] at h2 e2
      rw [List.getElem?_set] at e1
      simp only [if_true] at e1
      split at e1
      · cases e1
        exact hn ⟨k, t, h2, o2, e2⟩
      · cases e1
    · rw [List.getElem?_set_ne nj] at h1 e1
      by_cases nk : i = k
      · subst nk
        rw [List.getElem?_set] at e2
        simp only [if_true] at e2
        split at e2
        · cases e2
          exact hn ⟨j, s', h1, o1, e1⟩
        · cases e2
      · rw [List.getElem?_set_ne nk] at h2 e2
        exact ev.apart j k s' t b hjk h1 h2 o1 o2 e1 e2
theorem not_priv (ev : SEnvR κ H0 P G H σ env) {a : Addr} (h : H a = none) : ¬ Priv env σ a := fun hp => by
  obtain ⟨_, _, _, o, e⟩ := ev.priv hp
  rw [e] at h; cases h

/-! ### blocks -/
@[simp] def sNext : FS := fun D env n => D.nx env n
def sSeq (a b : FS) : FS := fun D env n => a { D with nx := fun e m => b D e m } env n
theorem ds_nil : DS κ X [] sNext := ⟨_, pss_nil, fun P0 G0 H0 P G H σ env D E gr g ev hf ok => ok.nx P G H σ env gr g ev hf⟩
theorem ds_cons (h1 : D1 κ X st s1) (h2 : DS κ X sts s2) : DS κ X (st :: sts) (sSeq s1 s2) := by
  obtain ⟨t1, p1, q1⟩ := h1
  obtain ⟨t2, p2, q2⟩ := h2
  refine ⟨_, pss_cons p1 p2, fun P0 G0 H0 P G H σ env D E gr g ev hf ok => ?_⟩
  exact q1 P0 G0 H0 P G H σ env _ _ gr g ev hf ⟨fun P' G' H' σ' env' gr' g' ev' h => q2 P0 G0 H0 P' G' H' σ' env' D E gr' g' ev' h ok, ok.rt, ok.bk, ok.ct⟩
theorem ds_one (h1 : D1 κ X st s1) : DS κ X [st] s1 := by
  obtain ⟨t1, p1, q1⟩ := h1
  exact ⟨_, pss_one p1, q1⟩
@[simp] def sNever : FS := fun _ _ _ => False
theorem ds_never : DS κ X sts sNever := ⟨_, pss_never, fun P0 G0 H0 P G H σ env D E gr g ev hf ok => hf⟩
theorem d1_never : D1 κ X st sNever := ⟨_, ps_never, fun P0 G0 H0 P G H σ env D E gr g ev hf ok => hf⟩
theorem d1_pass : D1 κ X (.Pass pos) sNext := ⟨_, ps_pass, fun P0 G0 H0 P G H σ env D E gr g ev hf ok => ok.nx P G H σ env gr g ev hf⟩
@[simp] def sBreak : FS := fun D env n => D.bk env n
@[simp] def sCont : FS := fun D env n => D.ct env n
theorem d1_break : D1 κ X (.Break pos) sBreak := ⟨_, ps_break, fun P0 G0 H0 P G H σ env D E gr g ev hf ok => ok.bk P G H σ env gr g ev hf⟩
theorem d1_cont : D1 κ X (.Continue pos) sCont := ⟨_, ps_continue, fun P0 G0 H0 P G H σ env D E gr g ev hf ok => ok.ct P G H σ env gr g ev hf⟩

/-! ### stores to names -/
@[simp] def sAsg (i : Nat) (f : FE) : FS := fun D env n => f (hide env) n fun d m => D.nx (env.set i (some (.val d))) m
@[simp] def sAsgV (i : Nat) (f : FE) : FS := fun D env n => f (view env) n fun d m => flatD d = true ∧ D.nx (env.set i (some (.val d))) m
@[simp] def sAsgO (i : Nat) (f : FA) : FS := fun D env n => f (hide env) n fun xs m => D.nx (env.set i (some (.own xs))) m
@[simp] def sAsgOV (i : Nat) (f : FA) : FS := fun D env n => f (view env) n fun xs m => xs.all flatD = true ∧ D.nx (env.set i (some (.own xs))) m
section
variable {x : Str} {p2 : Pos}
theorem asg_lift {i : Nat} (h : RdE κ f te) : RdS κ (sAsg i f) (tAsg te (gName i)) := fun P0 G0 H0 P G H σ env D E gr g ev hf ok =>
  at_hide h g ev hf fun v P' G' H' d gr' g' ev' r q => ok.nx P' G' H' _ _ (gr.trans gr') g' (ev'.set r) q
theorem asgV_lift {i : Nat} (h : RdE κ f te) : RdS κ (sAsgV i f) (tAsg te (gName i)) := fun P0 G0 H0 P G H σ env D E gr g ev hf ok =>
  at_view h g ev hf fun v P' G' H' d gr' g' ev' r q => ok.nx P' G' H' _ _ (gr.trans gr') g' (ev'.set r) q
theorem asgO_lift {i : Nat} (h : RdO κ fo te) : RdS κ (sAsgO i fo) (tAsg te (gName i)) := fun P0 G0 H0 P G H σ env D E gr g ev hf ok =>
  at_hideO h g ev (fun a ha => gr.back ha) hf fun a P' G' H' xs gr' g' ev' ha o q => ok.nx P' G' H' _ _ (gr.trans gr') g' (ev'.setO (s := .own xs) ⟨a, rfl, o⟩ (not_priv ev ha)) q
theorem asgOV_lift {i : Nat} (h : RdO κ fo te) : RdS κ (sAsgOV i fo) (tAsg te (gName i)) := fun P0 G0 H0 P G H σ env D E gr g ev hf ok =>
  at_viewO h g ev (fun a ha => gr.back ha) hf fun a P' G' H' xs gr' g' ev' ha o q => ok.nx P' G' H' _ _ (gr.trans gr') g' (ev'.setO (s := .own xs) ⟨a, rfl, o⟩ (not_priv ev ha)) q
variable {i : Nat} (hN : X.N.Nodup) (hi : X.N[i]? = some x) (hx : Loc X.env.scope x) (hs : swapsWith e (some (.Name x p2)) pos.line X.env = pure false) (hfn : X.fn x = true ∨ X.env.scope.names.lookup x = some .local)
include hN hi hx hs hfn
theorem d1_asg (h : DE κ X e f) : D1 κ X (.Assign [.Name x p2] e pos) (sAsg i f) := by
  obtain ⟨t, p, q⟩ := h
  exact ⟨_, ps_set hN hi hx p hs hfn, asg_lift q⟩
theorem d1_asgV (h : DE κ X e f) : D1 κ X (.Assign [.Name x p2] e pos) (sAsgV i f) := by
  obtain ⟨t, p, q⟩ := h
  exact ⟨_, ps_set hN hi hx p hs hfn, asgV_lift q⟩
theorem d1_asgO (h : DO κ X e fo) : D1 κ X (.Assign [.Name x p2] e pos) (sAsgO i fo) := by
  obtain ⟨t, p, q⟩ := h
  exact ⟨_, ps_set hN hi hx p hs hfn, asgO_lift q⟩
theorem d1_asgOV (h : DO κ X e fo) : D1 κ X (.Assign [.Name x p2] e pos) (sAsgOV i fo) := by
  obtain ⟨t, p, q⟩ := h
  exact ⟨_, ps_set hN hi hx p hs hfn, asgOV_lift q⟩
end

/-! ### return, a call as a statement, if -/
@[simp] def sRet (f : FE) : FS := fun D env n => f (hide env) n fun d m => D.rt (.val d) m
@[simp] def sRetV (f : FE) : FS := fun D env n => f (view env) n fun d m => flatD d = true ∧ D.rt (.val d) m
@[simp] def sRetO (f : FA) : FS := fun D env n => f (hide env) n fun xs m => D.rt (.own xs) m
@[simp] def sRetOV (f : FA) : FS := fun D env n => f (view env) n fun xs m => xs.all flatD = true ∧ D.rt (.own xs) m
theorem d1_ret (h : DE κ X e f) : D1 κ X (.Return (some e) pos) (sRet f) := by
  obtain ⟨t, p, q⟩ := h
  exact ⟨_, ps_ret p, fun P0 G0 H0 P G H σ env D E gr g ev hf ok => at_hide q g ev hf fun v P' G' H' d gr' g' ev' r hq => ok.rt v (.val d) P' G' H' (gr.trans gr') g' r hq⟩
theorem d1_retV (h : DE κ X e f) : D1 κ X (.Return (some e) pos) (sRetV f) := by
  obtain ⟨t, p, q⟩ := h
  exact ⟨_, ps_ret p, fun P0 G0 H0 P G H σ env D E gr g ev hf ok => at_view q g ev hf fun v P' G' H' d gr' g' ev' r hq => ok.rt v (.val d) P' G' H' (gr.trans gr') g' r hq⟩
theorem d1_retO (h : DO κ X e fo) : D1 κ X (.Return (some e) pos) (sRetO fo) := by
  obtain ⟨t, p, q⟩ := h
  exact ⟨_, ps_ret p, fun P0 G0 H0 P G H σ env D E gr g ev hf ok => at_hideO q g ev (fun a ha => gr.back ha) hf fun a P' G' H' xs gr' g' ev' ha o hq => ok.rt _ (.own xs) P' G' H' (gr.trans gr') g' ⟨a, rfl, o⟩ hq⟩
theorem d1_retOV (h : DO κ X e fo) : D1 κ X (.Return (some e) pos) (sRetOV fo) := by
  obtain ⟨t, p, q⟩ := h
  exact ⟨_, ps_ret p, fun P0 G0 H0 P G H σ env D E gr g ev hf ok => at_viewO q g ev (fun a ha => gr.back ha) hf fun a P' G' H' xs gr' g' ev' ha o hq => ok.rt _ (.own xs) P' G' H' (gr.trans gr') g' ⟨a, rfl, o⟩ hq⟩
/-- return x, x an own list or any slot -/
@[simp] def sRetS (i : Nat) : FS := fun D env n => ∃ s, env[i]? = some (some s) ∧ D.rt s n
theorem d1_retS {i : Nat} {x : Str} {p2 : Pos} (hN : X.N[i]? = some x) (hv : Vis X.env.scope x) (hd : (x == ("__debug__" : Str)) = false := by decide) (hcd : (x == ("__classdict__" : Str)) = false := by decide) : D1 κ X (.Return (some (.Name x p2)) pos) (sRetS i) := by
  refine ⟨_, ps_ret (pe_var hN hv hd hcd), fun P0 G0 H0 P G H σ env D E gr g ev hf ok => ?_⟩
  obtain ⟨s, h1, h2⟩ := hf
  obtain ⟨v, q1, q2⟩ := ev.get i s h1
  exact ⟨v, q1, ok.rt v s P G H gr g q2 h2⟩
@[simp] def sRetN : FS := fun D _ n => D.rt (.val .non) n
theorem d1_retN : D1 κ X (.Return none pos) sRetN := ⟨_, ps_retN, fun P0 G0 H0 P G H σ env D E gr g ev hf ok => ok.rt .non (.val .non) P G H gr g .non hf⟩
@[simp] def sDrop (f : FE) : FS := fun D env n => f (hide env) n fun _ m => D.nx env m
theorem d1_expr (h : DE κ X e f) (hs : swapsWith e none pos.line X.env = pure false := by rfl) : D1 κ X (.Expr e pos) (sDrop f) := by
  obtain ⟨t, p, q⟩ := h
  exact ⟨_, ps_expr p hs, fun P0 G0 H0 P G H σ env D E gr g ev hf ok => at_hide q g ev hf fun v P' G' H' d gr' g' ev' r hq => ok.nx P' G' H' σ env (gr.trans gr') g' ev' hq⟩
@[simp] def sIf (c : FT) (a b : FS) : FS := fun D env n => c (view env) n fun t m => if t = true then a D env m else b D env m
theorem d1_if {b1 b2 : List Stmt} (hc : DT κ X e ft) (h1 : DS κ X b1 s1) (h2 : DS κ X b2 s2) : D1 κ X (.If e b1 b2 pos) (sIf ft s1 s2) := by
  obtain ⟨t, p, q⟩ := hc
  obtain ⟨t1, p1, q1⟩ := h1
  obtain ⟨t2, p2, q2⟩ := h2
  refine ⟨_, ps_if p p1 p2, fun P0 G0 H0 P G H σ env D E gr g ev hf ok => at_test q g ev hf fun b P' G' H' gr' g' ev' hq => ?_⟩
  cases b with
  | true => exact q1 P0 G0 H0 P' G' H' σ env D E (gr.trans gr') g' ev' hq ok
  | false => exact q2 P0 G0 H0 P' G' H' σ env D E (gr.trans gr') g' ev' hq ok
end
end DL

/-! ## DL11 -/
/-! DL11: loops, appends, own lists, defs -/
namespace DL
open PySem PySem.Spec PyProof.Rows L2
section
variable {κ : Kit} {X : Cx} {H0 : Hp} {P : Wd} {G H : Hp} {σ : L2.St} {env : SEnv} {a b e : Expr} {st : Stmt} {sts : List Stmt} {fa fb f : FE} {fo : FA} {ft : FT} {s1 s2 : FS} {te : TE} {tt : TT} {pos : Pos} {es : List Expr} {far : FA}

/-! ### an own list becomes a value -/
theorem SEnvR.freeze (ev : SEnvR κ H0 P G H σ env) (g : Good κ P G H) {i : Nat} {xs : List D} (h : env[i]? = some (some (.own xs))) :
    ∃ G', (∀ P0 G0, Grow P0 G0 H0 P G H → Grow P0 G0 H0 P G' H) ∧ Good κ P G' H ∧ SEnvR κ H0 P G' H σ (env.set i (some (.val (.lst xs)))) := by
  obtain ⟨v, q1, a, ea, vs, h1, h2, h3, h4, h5, h6⟩ := ev.get i _ h
  subst ea
  refine ⟨upd G a (.lst vs), fun P0 G0 gr => gr.frz h3 h4, g.frz h4 h5 h1, ?_⟩
  have hsub : ∀ b o, G b = some o → upd G a (.lst vs) b = some o := fun b o e => by rw [upd_ne (ne_of_none e h4)]; exact e
  have hlen : i < env.length := (List.getElem?_eq_some_iff.mp h).1
  refine ⟨by rw [List.length_set]; exact ev.len, fun j s hj => ?_, fun j k s t b hjk h1' h2' o1 o2 e1 e2 => ?_⟩
  · by_cases hij : i = j
    · subst hij
      rw [List.getElem?_set_self hlen] at hj
      cases hj
      exact ⟨_, q1, .lst upd_same h2 (reps_frz h4 h6)⟩
    · rw [List.getElem?_set_ne hij] at hj
      obtain ⟨v, w1, w2⟩ := ev.get j s hj
      refine ⟨v, w1, ?_⟩
      cases s with
      | val d => exact Rep.mono hsub (fun _ _ h => h) w2
      | own ys =>
        obtain ⟨b, eb, us, k1, k2, k3, k4, k5, k6⟩ := w2
        subst eb
        have hba : b ≠ a := fun e => by subst e; exact ev.apart i j _ _ b hij h hj rfl rfl q1 w1
        exact ⟨b, rfl, us, k1, k2, k3, by rw [upd_ne hba]; exact k4, k5, Reps.mono hsub (fun _ _ h => h) k6⟩
      | ownd ks ws =>
        obtain ⟨b, eb, kk, us, k1, kl, kz, kn, kk', k3, k4, k5, k6⟩ := w2
        subst eb
        have hba : b ≠ a := fun e => by subst e; exact ev.apart i j _ _ b hij h hj rfl rfl q1 w1
        exact ⟨b, rfl, kk, us, k1, kl, kz, kn, kk', k3, by rw [upd_ne hba]; exact k4, k5, Reps.mono hsub (fun _ _ h => h) k6⟩
  · have nj : i ≠ j := fun e => by
      subst e
      rw [List.getElem?_set_self hlen] at h1'
      cases h1'; cases o1
    have nk : i ≠ k := fun e => by
      subst e
      rw [List.getElem?_set_self hlen] at h2'
      cases h2'; cases o2
    rw [List.getElem?_set_ne nj] at h1'
    rw [List.getElem?_set_ne nk] at h2'
    exact ev.apart j k s t b hjk h1' h2' o1 o2 e1 e2
/-- ahead of a statement: the list at slot i is a value from here on -/
@[simp] def sFrz (i : Nat) (s : FS) : FS := fun D env n => ∃ xs, env[i]? = some (some (.own xs)) ∧ s D (env.set i (some (.val (.lst xs)))) n
theorem d1_frz (i : Nat) (h : D1 κ X st s1) : D1 κ X st (sFrz i s1) := by
  obtain ⟨t, p, q⟩ := h
  refine ⟨t, p, fun P0 G0 H0 P G H σ env D E gr g ev hf ok => ?_⟩
  obtain ⟨xs, h1, h2⟩ := hf
  obtain ⟨G', w1, w2, w3⟩ := ev.freeze g h1
  exact q P0 G0 H0 P G' H σ _ D E (w1 P0 G0 gr) w2 w3 h2 ok

/-! ### changes to an own list -/
theorem SEnvR.put (ev : SEnvR κ H0 P G H σ env) {i : Nat} {xs ys : List D} {a : Addr} {us : List V} (h : env[i]? = some (some (.own xs))) (hs : σ[i]? = some (some (.ref a))) (hz : us.length ≤ sizeLine) (r : Reps κ G P.iv us ys) :
    SEnvR κ H0 P G (upd H a (.lst us)) σ (env.set i (some (.own ys))) := by
  obtain ⟨v, q1, b, eb, vs, h1, h2, h3, h4, h5, h6⟩ := ev.get i _ h
  subst eb
  rw [hs] at q1
  cases q1
  have hlen : i < env.length := (List.getElem?_eq_some_iff.mp h).1
  refine ⟨by rw [List.length_set]; exact ev.len, fun j s hj => ?_, fun j k s t b hjk h1' h2' o1 o2 e1 e2 => ?_⟩
  · by_cases hij : i = j
    · subst hij
      rw [List.getElem?_set_self hlen] at hj
      cases hj
      exact ⟨_, hs, _, rfl, us, upd_same, hz, h3, h4, h5, r⟩
    · rw [List.getElem?_set_ne hij] at hj
      obtain ⟨v, w1, w2⟩ := ev.get j s hj
      refine ⟨v, w1, ?_⟩
      cases s with
      | val d => exact w2
      | own zs =>
        obtain ⟨b, eb, ws, k1, k2, k3, k4, k5, k6⟩ := w2
        subst eb
        have hba : b ≠ a := fun e => by subst e; exact ev.apart i j _ _ b hij h hj rfl rfl hs w1
        exact ⟨b, rfl, ws, by rw [upd_ne hba]; exact k1, k2, k3, k4, k5, k6⟩
      | ownd ks ws =>
        obtain ⟨b, eb, kk, us, k1, kl, kz, kn, kk', k3, k4, k5, k6⟩ := w2
        subst eb
        have hba : b ≠ a := fun e => by subst e; exact ev.apart i j _ _ b hij h hj rfl rfl hs w1
        exact ⟨b, rfl, kk, us, by rw [upd_ne hba]; exact k1, kl, kz, kn, kk', k3, k4, k5, k6⟩
  · have key : ∀ j s, (env.set i (some (Sl.own ys)))[j]? = some (some s) → isOwn s = true → ∃ s', env[j]? = some (some s') ∧ isOwn s' = true := fun j s hj ho => by
      by_cases hij : i = j
      · subst hij; exact ⟨_, h, rfl⟩
      · rw [List.getElem?_set_ne hij] at hj; exact ⟨s, hj, ho⟩
    obtain ⟨s', w1, w2⟩ := key j s h1' o1
    obtain ⟨t', w3, w4⟩ := key k t h2' o2
    exact ev.apart j k s' t' b hjk w1 w3 w2 w4 e1 e2
/-- x.append(e) -/
@[simp] def sApp (i : Nat) (f : FE) : FS := fun D env n => ∃ xs, env[i]? = some (some (.own xs)) ∧ f (hide env) n fun d m => xs.length < 16777216 ∧ D.nx (env.set i (some (.own (xs ++ [d])))) m
@[simp] def sAppV (i : Nat) (f : FE) : FS := fun D env n => ∃ xs, env[i]? = some (some (.own xs)) ∧ f (view env) n fun d m => flatD d = true ∧ xs.length < 16777216 ∧ D.nx (env.set i (some (.own (xs ++ [d])))) m
theorem tyV_list {K : PySem.W.Frag} {a : Addr} {vs : List V} (h : H a = some (.lst vs)) : tyV K "list" (.ref a) H := .inl ⟨rfl, _, SqL.of h⟩
theorem app_end {P0 : Wd} {G0 : Hp} {d : D} {xs : List D} {D : DEnds} {E : Ends} {P' : Wd} {G' H' : Hp} {i : Nat} {v : V} {a : Addr} (gr : Grow P0 G0 H0 P' G' H') (g : Good κ P' G' H') (ev : SEnvR κ H0 P' G' H' σ env) (h : env[i]? = some (some (.own xs))) (hs : σ[i]? = some (some (.ref a))) (hz : xs.length < 16777216) (r : Rep κ G' P'.iv v d) (ok : EndsOk κ P0 G0 H0 D E) (q : D.nx (env.set i (some (.own (xs ++ [d])))) P'.n) :
    ∃ l ys y, V.ref a = .ref l ∧ [v] = [y] ∧ H' l = some (.lst ys) ∧ ys.length < sizeLine ∧ E.nx σ (upd H' l (.lst (ys ++ [y]))) := by
  obtain ⟨u, q1, b, eb, vs, h1, h2, h3, h4, h5, h6⟩ := ev.get i _ h
  subst eb
  rw [hs] at q1
  cases q1
  have hl : sizeLine = 16777216 := sizeLine_eq
  have hlen : vs.length = xs.length := h6.length
  refine ⟨a, vs, v, rfl, rfl, h1, by omega, ok.nx P' G' _ σ _ (gr.put h3) (g.put h4 h5) (ev.put h hs (by rw [List.length_append]; show vs.length + 1 ≤ sizeLine; omega) (h6.append (.cons r .nil))) q⟩
theorem app_lift {i : Nat} {tx : TE} {K : PySem.W.Frag} (hx : tx = tVar i) (h : RdE κ f te) : RdS κ (sApp i f) (tDrop (tBM K "list" rAppend tx (tCons te tNil))) := fun P0 G0 H0 P G H σ env D E gr g ev hf ok => by
  subst hx
  obtain ⟨xs, h1, hf⟩ := hf
  obtain ⟨u, q1, b, eb, vs, k1, k2, k3, k4, k5, k6⟩ := ev.get i _ h1
  subst eb
  refine ⟨_, q1, tyV_list k1, ?_⟩
  refine at_hide h g ev hf fun v P' G' H' d gr' g' ev' r q => ?_
  exact app_end (gr.trans gr') g' ev' h1 q1 q.1 r ok q.2
theorem appV_lift {i : Nat} {tx : TE} {K : PySem.W.Frag} (hx : tx = tVar i) (h : RdE κ f te) : RdS κ (sAppV i f) (tDrop (tBM K "list" rAppend tx (tCons te tNil))) := fun P0 G0 H0 P G H σ env D E gr g ev hf ok => by
  subst hx
  obtain ⟨xs, h1, hf⟩ := hf
  obtain ⟨u, q1, b, eb, vs, k1, k2, k3, k4, k5, k6⟩ := ev.get i _ h1
  subst eb
  refine ⟨_, q1, tyV_list k1, ?_⟩
  refine at_view h g ev hf fun v P' G' H' d gr' g' ev' r q => ?_
  exact app_end (gr.trans gr') g' ev' h1 q1 q.1 r ok q.2
section
variable {x : Str} {p2 apos cpos : Pos} {i : Nat}
theorem d1_app (i : Nat) (hN : X.N[i]? = some x) (hv : Vis X.env.scope x) (h : DE κ X e f) (hd : (x == ("__debug__" : Str)) = false := by decide) (hcd : (x == ("__classdict__" : Str)) = false := by decide)
    (hbase : attributeBase (.Name x p2) "append" X.env (eval (.Name x p2) X.env) = eval (.Name x p2) X.env := by rfl)
    (hfew : ((backTo cpos (starEach [e] X.env)).all (fun x => !x.1) && (backToKw cpos (keywordEach [] X.env)).all (fun x => x.1.isSome) && decide ([e].length + ([] : List Keyword).length + (if ([] : List Keyword).isEmpty then 0 else 1) < 30)) = true := by rfl)
    (hline : (apos.endLine == cpos.line) = true := by rfl) (hs : starEach [e] X.env = (false, eval e X.env) :: starEach [] X.env := by rfl) (hplain : (backTo cpos (starEach [] X.env)).any (·.1) = false := by rfl)
    (hsw : swapsWith (.Call (.Attribute (.Name x p2) "append" apos) [e] [] cpos) none pos.line X.env = pure false := by rfl) :
    D1 κ X (.Expr (.Call (.Attribute (.Name x p2) "append" apos) [e] [] cpos) pos) (sApp i f) := by
  obtain ⟨t, p, q⟩ := h
  exact ⟨_, ps_expr (pe_bm PySem.F.plainAttrs_list PySem.F.slot_list_append PySem.F.type_list_append mt_append (pe_var hN hv hd hcd) (pa_cons p pa_nil hs) hbase hfew hline hs hplain) hsw, app_lift rfl q⟩
theorem d1_appV (i : Nat) (hN : X.N[i]? = some x) (hv : Vis X.env.scope x) (h : DE κ X e f) (hd : (x == ("__debug__" : Str)) = false := by decide) (hcd : (x == ("__classdict__" : Str)) = false := by decide)
    (hbase : attributeBase (.Name x p2) "append" X.env (eval (.Name x p2) X.env) = eval (.Name x p2) X.env := by rfl)
    (hfew : ((backTo cpos (starEach [e] X.env)).all (fun x => !x.1) && (backToKw cpos (keywordEach [] X.env)).all (fun x => x.1.isSome) && decide ([e].length + ([] : List Keyword).length + (if ([] : List Keyword).isEmpty then 0 else 1) < 30)) = true := by rfl)
    (hline : (apos.endLine == cpos.line) = true := by rfl) (hs : starEach [e] X.env = (false, eval e X.env) :: starEach [] X.env := by rfl) (hplain : (backTo cpos (starEach [] X.env)).any (·.1) = false := by rfl)
    (hsw : swapsWith (.Call (.Attribute (.Name x p2) "append" apos) [e] [] cpos) none pos.line X.env = pure false := by rfl) :
    D1 κ X (.Expr (.Call (.Attribute (.Name x p2) "append" apos) [e] [] cpos) pos) (sAppV i f) := by
  obtain ⟨t, p, q⟩ := h
  exact ⟨_, ps_expr (pe_bm PySem.F.plainAttrs_list PySem.F.slot_list_append PySem.F.type_list_append mt_append (pe_var hN hv hd hcd) (pa_cons p pa_nil hs) hbase hfew hline hs hplain) hsw, appV_lift rfl q⟩
end

/-! ### x += e, ints and texts; another value of its own -/
@[simp] def sAug (φ : D → D → Nat → (D → Nat → Prop) → Prop) (i : Nat) (f : FE) : FS := fun D env n => ∃ d, env[i]? = some (some (.val d)) ∧ f (view env) n fun y m => flatD y = true ∧ φ d y m fun z k => D.nx (env.set i (some (.val z))) k
theorem aug_lift {i : Nat} {φ : D → D → Nat → (D → Nat → Prop) → Prop} {ti : TIp} (hl : LiftR κ ti φ) (h : RdE κ f te) : RdS κ (sAug φ i f) (tAug i te ti) := fun P0 G0 H0 P G H σ env D E gr g ev hf ok => by
  obtain ⟨d, h1, hf⟩ := hf
  obtain ⟨v, q1, q2⟩ := ev.get i _ h1
  refine ⟨v, q1, at_view h g ev hf fun w P' G' H' y gr' g' ev' r q => ?_⟩
  exact hl P' G' H' v w d y _ _ g' (gr'.rep q2) r q fun z P2 G2 H2 dz gr2 g2 rz hq => ok.nx P2 G2 H2 _ _ ((gr.trans gr').trans gr2) g2 ((ev'.grow gr2).set rz) hq
theorem ip_addA : PIp X .Add (fun x y H Q => (ipI fun i j => i + j) x y H Q ∨ (∃ i j, x = .str i ∧ y = .str j ∧ i.length + j.length ≤ sizeLine ∧ Q (.str (i ++ j)) H)) := by
  intro pins s σ H x y v u Q I r1 r2 h
  rcases h with h | h
  · exact ip_add pins s σ H x y v u Q I r1 r2 h
  · exact in_addS pins s σ H x y v u Q I r1 r2 h
theorem lift_addA : LiftR κ (fun x y H Q => (ipI fun i j => i + j) x y H Q ∨ (∃ i j, x = .str i ∧ y = .str j ∧ i.length + j.length ≤ sizeLine ∧ Q (.str (i ++ j)) H)) gAdd := by
  intro P G H x y dx dy Q R g rx ry hf hR
  cases rx <;> cases ry <;> try (exact False.elim hf)
  · exact .inl ⟨_, _, rfl, rfl, hR _ P G H _ .refl g .int hf⟩
  · rename_i s hs t ht
    refine .inr ⟨_, _, rfl, rfl, ?_, ?_⟩
    · rw [str_len, str_len]; exact hf.1
    · rw [str_app]; exact hR _ P G H _ .refl g (.str (hs.app ht hf.1)) hf.2
theorem lift_subI : LiftR κ (ipI fun i j => i - j) gSub := by
  intro P G H x y dx dy Q R g rx ry hf hR
  cases rx <;> cases ry <;> try (exact False.elim hf)
  exact ⟨_, _, rfl, rfl, hR _ P G H _ .refl g .int hf⟩
theorem d1_augAdd (i : Nat) {x : Str} {p2 : Pos} (hN : X.N.Nodup) (hi : X.N[i]? = some x) (hx : Loc X.env.scope x) (h : DE κ X e f) (hf : X.fn x = true ∨ X.env.scope.names.lookup x = some .local := by first | exact .inl rfl | exact .inr rfl | assumption) : D1 κ X (.AugAssign (.Name x p2) .Add e pos) (sAug gAdd i f) := by
  obtain ⟨t, p, q⟩ := h
  exact ⟨_, ps_aug hN hi hx p ip_addA hf, aug_lift lift_addA q⟩
theorem d1_augSub (i : Nat) {x : Str} {p2 : Pos} (hN : X.N.Nodup) (hi : X.N[i]? = some x) (hx : Loc X.env.scope x) (h : DE κ X e f) (hf : X.fn x = true ∨ X.env.scope.names.lookup x = some .local := by first | exact .inl rfl | exact .inr rfl | assumption) : D1 κ X (.AugAssign (.Name x p2) .Sub e pos) (sAug gSub i f) := by
  obtain ⟨t, p, q⟩ := h
  exact ⟨_, ps_aug hN hi hx p ip_sub hf, aug_lift lift_subI q⟩

/-! ### for -/
abbrev SG := D → SEnv → (SEnv → Prop) → Prop
def LiftSG (κ : Kit) (g : TG) (φ : SG) : Prop := ∀ (H0 : Hp) (P : Wd) (G H : Hp) (v : V) (d : D) (σ : L2.St) (env : SEnv) (Q : SEnv → Prop) (R : L2.St → Hp → Prop), Good κ P G H → SEnvR κ H0 P G H σ env → Rep κ G P.iv v d → φ d env Q →
  (∀ σ' env', SEnvR κ H0 P G H σ' env' → Q env' → R σ' H) → g v σ H R
def SGs := List D → SEnv → (SEnv → Prop) → Prop
def LiftSGs (κ : Kit) (g : TGs) (φ : SGs) : Prop := ∀ (H0 : Hp) (P : Wd) (G H : Hp) (v : List V) (d : List D) (σ : L2.St) (env : SEnv) (Q : SEnv → Prop) (R : L2.St → Hp → Prop), Good κ P G H → SEnvR κ H0 P G H σ env → Reps κ G P.iv v d → φ d env Q →
  (∀ σ' env', SEnvR κ H0 P G H σ' env' → Q env' → R σ' H) → g v σ H R
def SD (κ : Kit) (X : Cx) (tg : Expr) (φ : SG) : Prop := ∃ g, PG X tg g ∧ LiftSG κ g φ
def SDs (κ : Kit) (X : Cx) (tgs : List Expr) (φ : SGs) : Prop := ∃ g, PGs X tgs g ∧ LiftSGs κ g φ
@[simp] def nN (i : Nat) : SG := fun d env Q => Q (env.set i (some (.val d)))
def nsNil : SGs := fun ds env Q => match ds with
  | [] => Q env
  | _ => False
def nsCons (φ : SG) (ψ : SGs) : SGs := fun ds env Q => match ds with
  | d :: r => φ d env fun env' => ψ r env' Q
  | [] => False
def nT (n : Nat) (ψ : SGs) : SG := fun d env Q => match d with
  | .tup ds => ds.length = n ∧ ψ ds env Q
  | _ => False
theorem sd_name (i : Nat) {x : Str} (hN : X.N.Nodup) (hi : X.N[i]? = some x) (hx : Loc X.env.scope x) (hf : X.fn x = true ∨ X.env.scope.names.lookup x = some .local := by first | exact .inl rfl | exact .inr rfl | assumption) : SD κ X (.Name x pos) (nN i) :=
  ⟨_, pg_name hN hi hx hf, fun H0 P G H v d σ env Q R g ev r hf hR => hR _ _ (ev.set r) hf⟩
theorem sds_nil : SDs κ X [] nsNil := ⟨_, pgs_nil, fun H0 P G H v d σ env Q R g ev r hf hR => by
  cases r with
  | nil => exact ⟨rfl, hR _ _ ev hf⟩
  | cons r t => exact False.elim hf⟩
theorem sds_cons {φ : SG} {ψ : SGs} (h1 : SD κ X e φ) (h2 : SDs κ X es ψ) (hs : (assignEach (e :: es) X.env).map (·.2) = assign e X.env :: (assignEach es X.env).map (·.2) := by rfl) : SDs κ X (e :: es) (nsCons φ ψ) := by
  obtain ⟨g, p, q⟩ := h1
  obtain ⟨gs, ps, qs⟩ := h2
  refine ⟨_, pgs_cons p ps hs, fun H0 P G H v d σ env Q R g ev r hf hR => ?_⟩
  cases r with
  | nil => exact False.elim hf
  | @cons v0 d0 vs0 ds r t => exact ⟨_, _, rfl, q H0 P G H _ d0 σ env _ _ g ev r hf fun σ1 env1 ev1 hf1 => qs H0 P G H _ ds σ1 env1 Q R g ev1 t hf1 hR⟩
theorem sd_tup {k n : Nat} {ψ : SGs} (hc : X.calm = true) (h : SDs κ X es ψ) (hn : (assignEach es X.env).length = n := by rfl) (hst : (assignEach es X.env).findIdx? (·.1) = none := by rfl) : SD κ X (.Tuple es k pos) (nT n ψ) := by
  obtain ⟨gs, ps, qs⟩ := h
  refine ⟨_, pg_tup hc ps hn hst, fun H0 P G H v d σ env Q R g ev r hf hR => ?_⟩
  unfold nT at hf
  split at hf
  · obtain ⟨hn, hf⟩ := hf
    cases r with
    | tup ht z r => exact ⟨_, _, rfl, SqT.of (g.gx ht rfl), by rw [r.length]; exact hn, qs H0 P G H _ _ σ env Q R g ev r hf hR⟩
  · exact hf.elim
/-- a, b = e -/
@[simp] def sUnp (φ : SG) (f : FE) : FS := fun D env n => f (hide env) n fun d m => φ d env fun env' => D.nx env' m
theorem d1_unp {tg : Expr} {φ : SG} (h : DE κ X e f) (hg : SD κ X tg φ) (hs : swapsWithSole [tg] e pos.line X.env = pure false := by rfl) (hw : swappedStores [tg] e X.env = pure none := by rfl) (h1 : (assignEach [tg] X.env).map (·.2) = [assign tg X.env] := by rfl) : D1 κ X (.Assign [tg] e pos) (sUnp φ f) := by
  obtain ⟨t, p, q⟩ := h
  obtain ⟨g, pg, qg⟩ := hg
  exact ⟨_, ps_asg p pg hs hw h1, fun P0 G0 H0 P G H σ env D E gr g ev hf ok => at_hide q g ev hf fun v P' G' H' d gr' g' ev' r hq => qg H0 P' G' H' v d σ env _ _ g' ev' r hq fun σ' env' ev2 hq2 => ok.nx P' G' H' σ' env' (gr.trans gr') g' ev2 hq2⟩
def forD (tg : SG) (body : FS) (D : DEnds) : List DL.D → SEnv → Nat → Prop
  | [], env, n => D.nx env n
  | x :: xs, env, n => tg x env fun env' => body { nx := fun e m => forD tg body D xs e m, ct := fun e m => forD tg body D xs e m, bk := D.nx, rt := D.rt } env' n
@[simp] def sFor (it : FA) (tg : SG) (body : FS) : FS := fun D env n => it (hide env) n fun xs m => forD tg body D xs env m
/-- a loop's turn starts where it stands -/
theorem Grow.turn {P0 P : Wd} {G0 H0 G H : Hp} (gr : Grow P0 G0 H0 P G H) : Grow P G H0 P G H :=
  ⟨fun _ _ h => h, fun _ _ h => h, Nat.le_refl _, fun _ _ h => h, fun a o h n => gr.h a o h (by rw [← (gr.fresh a o h).1]; exact n), gr.dom, fun _ _ _ => ⟨rfl, rfl, rfl⟩⟩
theorem Grow.behind {P0 P P1 : Wd} {G0 H0 G H G1 H1 : Hp} (gr : Grow P0 G0 H0 P G H) (g1 : Grow P G H0 P1 G1 H1) : Grow P0 G0 H0 P1 G1 H1 :=
  ⟨fun a o h => g1.fz a o (gr.fz a o h), fun a o h => g1.iv a o (gr.iv a o h), Nat.le_trans gr.n g1.n, fun a o h => g1.g a o (gr.g a o h), fun a o h n => g1.h a o h (by rw [(gr.fresh a o h).1]; exact n), g1.dom, fun a o h => by
    obtain ⟨a1, a2, a3⟩ := gr.fresh a o h
    obtain ⟨b1, b2, b3⟩ := g1.fresh a o h
    exact ⟨b1.trans a1, b2.trans a2, b3.trans a3⟩⟩
/-- a dict that was locked is let again: what has grown -/
theorem Grow.unlockB {P P1 : Wd} {G G1 H0 H1 : Hp} {a : Addr} {u : HO} {od : Obj} (hu : ∀ o, H0 a = some o → o = u) (gr : Grow P G (upd H0 a (.frz od u)) P1 G1 H1) : Grow P G H0 P1 G1 (upd H1 a u) where
  fz := gr.fz
  iv := gr.iv
  n := gr.n
  g := gr.g
  h := fun b o e n => by
    by_cases hb : b = a
    · subst hb
      rw [hu o e]; exact upd_same
    · rw [upd_ne hb]; exact gr.h b o (by rw [upd_ne hb]; exact e) n
  dom := fun b o e => by
    by_cases hb : b = a
    · subst hb; exact ⟨_, upd_same⟩
    · rw [upd_ne hb]; exact gr.dom b o (by rw [upd_ne hb]; exact e)
  fresh := fun b o e => by
    by_cases hb : b = a
    · subst hb; exact gr.fresh b _ upd_same
    · exact gr.fresh b o (by rw [upd_ne hb]; exact e)
theorem Grow.lockB {P : Wd} {G H0 H : Hp} {a : Addr} {u : HO} {od : Obj} (gr : Grow P G H0 P G H) : Grow P G (upd H0 a (.frz od u)) P G (upd H a (.frz od u)) where
  fz := fun _ _ h => h
  iv := fun _ _ h => h
  n := Nat.le_refl _
  g := fun _ _ h => h
  h := fun b o e n => by
    by_cases hb : b = a
    · subst hb; rw [upd_same] at e ⊢; exact e
    · rw [upd_ne hb] at e ⊢; exact gr.h b o e n
  dom := fun b o e => by
    by_cases hb : b = a
    · subst hb; exact ⟨_, upd_same⟩
    · rw [upd_ne hb] at e ⊢; exact gr.dom b o e
  fresh := fun _ _ _ => ⟨rfl, rfl, rfl⟩
theorem SlR.swap {H1 H2 : Hp} {P : Wd} {G G' H H' : Hp} {v : V} {s : Sl} (h : ∀ b o, H b = some o → H1 b = none → G b = none → H2 b = none ∧ H' b = some o) (r : SlR κ H1 P G H v s) : SlR κ H2 P G H' v s := by
  cases s with
  | val d => exact r
  | own xs =>
    obtain ⟨b, e, vs, h1, h2, h3, h4, h5⟩ := r
    obtain ⟨q1, q2⟩ := h b _ h1 h3 h4
    exact ⟨b, e, vs, q2, h2, q1, h4, h5⟩
  | ownd ks vs =>
    obtain ⟨b, e, kk, us, h1, h2, h3, h4, h5, h6, h7, h8⟩ := r
    obtain ⟨q1, q2⟩ := h b _ h1 h6 h7
    exact ⟨b, e, kk, us, q2, h2, h3, h4, h5, q1, h7, h8⟩
theorem SEnvR.swap {H1 H2 : Hp} {P : Wd} {G H H' : Hp} {σ : L2.St} {env : SEnv} (h : ∀ b o, H b = some o → H1 b = none → G b = none → H2 b = none ∧ H' b = some o) (ev : SEnvR κ H1 P G H σ env) : SEnvR κ H2 P G H' σ env :=
  ⟨ev.len, fun i s hi => by
    obtain ⟨v, q1, q2⟩ := ev.get i s hi
    exact ⟨v, q1, q2.swap (G' := G) h⟩, ev.apart⟩
theorem for_body {J : It} {S : Hp → Prop} {g : TG} {tb : TS} {φ : SG} {P0 P : Wd} {G0 H0 G H : Hp} {D : DEnds} {E : Ends} {xs : List DL.D} (gr : Grow P0 G0 H0 P G H) (g0 : Good κ P G H) (ev : SEnvR κ H0 P G H σ env) (it : IterS κ S J P G xs) (hS : ∀ P' G' H', Grow P0 G0 H0 P' G' H' → S H') (hg : LiftSG κ g φ) (hb : RdS κ s1 tb)
    (hq : forD φ s1 D xs env P.n) (ok : EndsOk κ P0 G0 H0 D E) : tFor (fun _ H R => R J H) g tb E σ H := by
  refine ⟨fun i m σ' H' => ∃ P' G' env', Ext P G P' G' ∧ Good κ P' G' H' ∧ Grow P0 G0 H0 P' G' H' ∧ SEnvR κ H0 P' G' H' σ' env' ∧ i ≤ xs.length ∧ m = xs.length - i ∧ forD φ s1 D (xs.drop i) env' P'.n, ⟨xs.length, P, G, env, .refl, g0, gr, ev, Nat.zero_le _, rfl, hq⟩, ?_⟩
  rintro i m σ' H' ⟨P', G', env', exb, g', gr0', ev', hix, rfl, hgo⟩
  by_cases hlt : i < xs.length
  · obtain ⟨go, yl⟩ := (it.2 i P' G' H' exb g' (hS _ _ _ gr0')).1 hlt
    refine .inr ⟨go, fun σ2 H2 => ∃ P2 G2 env2, Ext P G P2 G2 ∧ Good κ P2 G2 H2 ∧ Grow P0 G0 H0 P2 G2 H2 ∧ SEnvR κ H0 P2 G2 H2 σ2 env2 ∧ forD φ s1 D (xs.drop (i + 1)) env2 P2.n, fun σ2 H2 hN => ?_, fun v H2 hy => ?_⟩
    · obtain ⟨P2, G2, env2, q1, q2, q3, q4, q5⟩ := hN
      exact ⟨xs.length - (i + 1), by omega, P2, G2, env2, q1, q2, q3, q4, hlt, rfl, q5⟩
    · obtain ⟨G2, d, gr2, g2, hxd, rd⟩ := yl v H2 hy
      have hdrop : xs.drop i = d :: xs.drop (i + 1) := by
        rw [List.drop_eq_getElem_cons hlt]
        rw [List.getElem?_eq_getElem hlt] at hxd
        cases hxd; rfl
      rw [hdrop] at hgo
      have grt := gr0'.trans gr2
      have ext := exb.trans gr2.ext
      refine hg H0 P' G2 H2 v d σ' env' _ _ g2 (ev'.grow gr2) rd hgo fun σ1 env1 ev1 hf1 => ?_
      refine hb P' G2 H0 P' G2 H2 σ1 env1 _ _ grt.turn g2 ev1 hf1 ⟨?_, ?_, ?_, ?_⟩
      · exact fun P3 G3 H3 σ3 env3 gr3 g3 ev3 h3 => ⟨P3, G3, env3, ext.trans gr3.ext, g3, grt.behind gr3, ev3, h3⟩
      · exact fun v s P3 G3 H3 gr3 g3 r3 h3 => ok.rt v s P3 G3 H3 (grt.behind gr3) g3 r3 h3
      · exact fun P3 G3 H3 σ3 env3 gr3 g3 ev3 h3 => ok.nx P3 G3 H3 σ3 env3 (grt.behind gr3) g3 ev3 h3
      · exact fun P3 G3 H3 σ3 env3 gr3 g3 ev3 h3 => ⟨P3, G3, env3, ext.trans gr3.ext, g3, grt.behind gr3, ev3, h3⟩
  · have e : i = xs.length := by omega
    subst e
    rw [List.drop_length] at hgo
    exact .inl ⟨(it.2 _ P' G' H' exb g' (hS _ _ _ gr0')).2 rfl, ok.nx P' G' H' σ' env' gr0' g' ev' hgo⟩
def tLkS (t : TS) : TS := fun D σ H => tLock t D σ H ∨ t D σ H
theorem PS.lkS {X : Cx} {st : Stmt} {t : TS} (h : PS X st t) : PS X st (tLkS t) := ⟨fun pins s σ H D I hw => by
  rcases hw with hw | hw
  · exact (ps_lock h).run pins s σ H D I hw
  · exact h.run pins s σ H D I hw⟩
theorem for_lift {w : TI} {g : TG} {tb : TS} {φ : SG} (hi : RdJ κ far w) (hg : LiftSG κ g φ) (hb : RdS κ s1 tb) : RdS κ (sFor far φ s1) (tLkS (tFor w g tb)) := fun P0 G0 H0 P G H σ env D E gr good ev hf ok => by
  rcases hi P G H σ (hide env) _ good ev.hide hf with hi | ⟨a, u, hGa, hdk, hi⟩
  · refine .inr (hi _ fun J Pb Gb Hb xs gr0 gb it hq => ?_)
    exact for_body (gr.trans gr0) gb (ev.grow gr0) it.s (fun _ _ _ _ => trivial) hg hb hq ok
  · have hia : P.iv a = none := by
      cases e : P.iv a with
      | none => rfl
      | some t => rw [(good.gi a t e).1] at hGa; cases hGa
    have run : ∀ (od : Obj) (H0' H' : Hp) (E' : Ends), H0' a = some (.frz od u) → H' a = some (.frz od u) → Good κ P G H' → Grow P G H0' P G H' → SEnvR κ H0' P G H' σ env → EndsOk κ P G H0' D E' → tFor w g tb E' σ H' := by
      intro od H0' H' E' h0 h1 g1 gr1 ev1 ok1
      refine hi od H' h1 g1 _ fun J xs it hq => ?_
      exact for_body gr1 g1 ev1 it (fun P' G' H'' gr2 => gr2.h a _ h0 hia) hg hb hq ok1
    rcases good.gh a u hGa with hHa | ⟨_, od, hHa⟩
    · refine .inl ⟨a, u, hHa, dk_mut hdk, fun od => ?_⟩
      have h0u : ∀ o, H0 a = some o → o = u := fun o ho => by
        have := gr.turn.h a o ho hia
        rw [hHa] at this; cases this; rfl
      refine run od (upd H0 a (.frz od u)) _ _ upd_same upd_same (good.lock hGa hdk) gr.turn.lockB (ev.swap fun b o e1 e2 e3 => ?_) ⟨?_, ?_, ?_, ?_⟩
      · have hba : b ≠ a := fun e => by subst e; rw [e3] at hGa; cases hGa
        exact ⟨by rw [upd_ne hba]; exact e2, by rw [upd_ne hba]; exact e1⟩
      all_goals
        have sw : ∀ {P' : Wd} {G' H' : Hp}, Grow P G (upd H0 a (.frz od u)) P' G' H' → ∀ b o, H' b = some o → (upd H0 a (.frz od u)) b = none → G' b = none → H0 b = none ∧ (upd H' a u) b = some o := fun {P' G' H'} gr' b o e1 e2 e3 => by
          have hba : b ≠ a := fun e => by subst e; rw [upd_same] at e2; cases e2
          rw [upd_ne hba] at e2
          exact ⟨e2, by rw [upd_ne hba]; exact e1⟩
      · exact fun P' G' H' σ' env' gr' g' ev' hq => ⟨gr'.h a _ upd_same hia, ok.nx P' G' _ σ' env' (gr.behind (gr'.unlockB h0u)) (g'.unlock (gr'.g _ _ hGa)) (ev'.swap (sw gr')) hq⟩
      · exact fun v s P' G' H' gr' g' r' hq => ⟨gr'.h a _ upd_same hia, ok.rt v s P' G' _ (gr.behind (gr'.unlockB h0u)) (g'.unlock (gr'.g _ _ hGa)) (r'.swap (G' := G') (sw gr')) hq⟩
      · exact fun P' G' H' σ' env' gr' g' ev' hq => ⟨gr'.h a _ upd_same hia, ok.bk P' G' _ σ' env' (gr.behind (gr'.unlockB h0u)) (g'.unlock (gr'.g _ _ hGa)) (ev'.swap (sw gr')) hq⟩
      · exact fun P' G' H' σ' env' gr' g' ev' hq => ⟨gr'.h a _ upd_same hia, ok.ct P' G' _ σ' env' (gr.behind (gr'.unlockB h0u)) (g'.unlock (gr'.g _ _ hGa)) (ev'.swap (sw gr')) hq⟩
    · cases hc : H0 a with
      | some o =>
        have := gr.turn.h a o hc hia
        rw [hHa] at this
        cases this
        exact .inr (run od H0 H E hc hHa good gr.turn ev ⟨fun P' G' H' σ' env' gr' => ok.nx P' G' H' σ' env' (gr.behind gr'), fun v s P' G' H' gr' => ok.rt v s P' G' H' (gr.behind gr'), fun P' G' H' σ' env' gr' => ok.bk P' G' H' σ' env' (gr.behind gr'), fun P' G' H' σ' env' gr' => ok.ct P' G' H' σ' env' (gr.behind gr')⟩)
      | none =>
        have dr : ∀ {P' : Wd} {G' H' : Hp}, Grow P G (upd H0 a (.frz od u)) P' G' H' → Grow P G H0 P' G' H' := fun {P' G' H'} gr' =>
          have ne : ∀ b o, H0 b = some o → b ≠ a := fun b o e z => by subst z; rw [hc] at e; cases e
          ⟨gr'.fz, gr'.iv, gr'.n, gr'.g, fun b o e n => gr'.h b o (by rw [upd_ne (ne b o e)]; exact e) n, fun b o e => gr'.dom b o (by rw [upd_ne (ne b o e)]; exact e), fun b o e => gr'.fresh b o (by rw [upd_ne (ne b o e)]; exact e)⟩
        have sw : ∀ {G' H' : Hp}, ∀ b o, H' b = some o → (upd H0 a (.frz od u)) b = none → G' b = none → H0 b = none ∧ H' b = some o := fun {G' H'} b o e1 e2 e3 => by
          have hba : b ≠ a := fun e => by subst e; rw [upd_same] at e2; cases e2
          rw [upd_ne hba] at e2
          exact ⟨e2, e1⟩
        have g0 : Grow P G (upd H0 a (.frz od u)) P G H := by
          refine ⟨fun _ _ h => h, fun _ _ h => h, Nat.le_refl _, fun _ _ h => h, fun b o e n => ?_, fun b o e => ?_, fun _ _ _ => ⟨rfl, rfl, rfl⟩⟩
          · by_cases hb : b = a
            · subst hb; rw [upd_same] at e; rw [hHa]; exact e
            · rw [upd_ne hb] at e; exact gr.turn.h b o e n
          · by_cases hb : b = a
            · subst hb; exact ⟨_, hHa⟩
            · rw [upd_ne hb] at e; exact gr.turn.dom b o e
        refine .inr (run od (upd H0 a (.frz od u)) H E upd_same hHa good g0 (ev.swap fun b o e1 e2 e3 => ?_) ⟨fun P' G' H' σ' env' gr' g' ev' => ok.nx P' G' H' σ' env' (gr.behind (dr gr')) g' (ev'.swap (sw (G' := G'))), fun v s P' G' H' gr' g' r' => ok.rt v s P' G' H' (gr.behind (dr gr')) g' (r'.swap (G' := G') (sw (G' := G'))), fun P' G' H' σ' env' gr' g' ev' => ok.bk P' G' H' σ' env' (gr.behind (dr gr')) g' (ev'.swap (sw (G' := G'))), fun P' G' H' σ' env' gr' g' ev' => ok.ct P' G' H' σ' env' (gr.behind (dr gr')) g' (ev'.swap (sw (G' := G')))⟩)
        have hba : b ≠ a := fun e => by subst e; rw [e3] at hGa; cases hGa
        exact ⟨by rw [upd_ne hba]; exact e2, e1⟩
theorem d1_for {iter tg : Expr} {body : List Stmt} {φ : SG} (hp : PassesOwn (model X.prog X.w) X.A X.env X.xe) (hc : X.calm = true) (hi : DI κ X tg iter far) (hg : SD κ X tg φ) (hb : DS κ X body s1) (hs : ∀ x, foldedSetIterable iter X.env x = pure x := by intro _; rfl) : D1 κ X (.For tg iter body [] pos) (sFor far φ s1) := by
  obtain ⟨w, pw, qw⟩ := hi
  obtain ⟨g, pg, qg⟩ := hg
  obtain ⟨tb, pb, qb⟩ := hb
  exact ⟨_, PS.lkS (ps_for hp hc pw pg pb hs), for_lift qw qg qb⟩
/-! ### while -/
def sWhile (c : FT) (body : FS) : FS := fun D env n => ∃ W : Nat → SEnv → Nat → Prop, (∃ m, W m env n) ∧ ∀ m env n, W m env n → c (view env) n fun b k => if b = true then body { D with nx := fun e j => ∃ m', m' < m ∧ W m' e j, ct := fun e j => ∃ m', m' < m ∧ W m' e j, bk := D.nx } env k else D.nx env k
theorem while_lift {tb : TS} (hc : RdT κ ft tt) (hb : RdS κ s1 tb) : RdS κ (sWhile ft s1) (tWhile tt tb) := fun P0 G0 H0 P G H σ env D E gr g ev hf ok => by
  obtain ⟨W, ⟨m0, h0⟩, hW⟩ := hf
  refine ⟨fun m σ' H' => ∃ P' G' env', Good κ P' G' H' ∧ Grow P0 G0 H0 P' G' H' ∧ SEnvR κ H0 P' G' H' σ' env' ∧ W m env' P'.n, ⟨m0, P, G, env, g, gr, ev, h0⟩, ?_⟩
  rintro m σ' H' ⟨P', G', env', g', gr', ev', hw⟩
  have again : ∀ (n : SEnv → Nat → Prop), (∀ e j, n e j → ∃ m', m' < m ∧ W m' e j) → OkN κ P0 G0 H0 n (fun σ2 H2 => ∃ m', m' < m ∧ ∃ P2 G2 env2, Good κ P2 G2 H2 ∧ Grow P0 G0 H0 P2 G2 H2 ∧ SEnvR κ H0 P2 G2 H2 σ2 env2 ∧ W m' env2 P2.n) := fun n hn P2 G2 H2 σ2 env2 gr2 g2 ev2 h2 => by
    obtain ⟨m', h1, h2⟩ := hn _ _ h2
    exact ⟨m', h1, P2, G2, env2, g2, gr2, ev2, h2⟩
  refine at_test hc g' ev' (hW m env' P'.n hw) fun b P2 G2 H2 gr2 g2 ev2 hq => ?_
  cases b with
  | true => exact ⟨_, fun _ _ h => h, hb P0 G0 H0 P2 G2 H2 σ' env' _ _ (gr'.trans gr2) g2 ev2 hq ⟨again _ fun _ _ h => h, ok.rt, ok.nx, again _ fun _ _ h => h⟩⟩
  | false => exact ok.nx P2 G2 H2 σ' env' (gr'.trans gr2) g2 ev2 hq
theorem d1_while {body : List Stmt} (hp : PassesOwn (model X.prog X.w) X.A X.env X.xe) (hc : DT κ X e ft) (hb : DS κ X body s1) : D1 κ X (.While e body [] pos) (sWhile ft s1) := by
  obtain ⟨t, p, q⟩ := hc
  obtain ⟨tb, pb, qb⟩ := hb
  exact ⟨_, ps_while hp p pb, while_lift q qb⟩
end
end DL

/-! ## DL12 -/
/-! DL12: own lists stored into, tuples of several, defs -/
namespace DL
open PySem PySem.Spec PyProof.Rows L2
abbrev FX := DEnv → Nat → (Sl → Nat → Prop) → Prop
abbrev FXs := DEnv → Nat → (List Sl → Nat → Prop) → Prop
abbrev RdX (κ : Kit) (g : FX) (te : TE) : Prop := ∀ (P : Wd) (G H : Hp) (σ : L2.St) (env : DEnv) (Q : Sl → Nat → Prop) (R : VK), Good κ P G H → EnvR κ G P.iv σ env → g env P.n Q →
  (∀ v s P' G' H', Grow P G H P' G' H' → Good κ P' G' H' → SlR κ H P' G' H' v s → Q s P'.n → R v H') → te σ H R
def DX (κ : Kit) (X : Cx) (e : Expr) (g : FX) : Prop := ∃ t, PE X e t ∧ RdX κ g t
/-- values and own lists, no list twice -/
def SlRs (κ : Kit) (H0 : Hp) (P : Wd) (G H : Hp) : List V → List Sl → Prop
  | [], [] => True
  | v :: vs, s :: ss => SlR κ H0 P G H v s ∧ (isOwn s = true → ∀ (i : Nat) (t : Sl), ss[i]? = some t → isOwn t = true → vs[i]? ≠ some v) ∧ SlRs κ H0 P G H vs ss
  | _, _ => False
abbrev RdXs (κ : Kit) (g : FXs) (te : TA) : Prop := ∀ (P : Wd) (G H : Hp) (σ : L2.St) (env : DEnv) (Q : List Sl → Nat → Prop) (R : List V → Hp → Prop), Good κ P G H → EnvR κ G P.iv σ env → g env P.n Q →
  (∀ vs ss P' G' H', Grow P G H P' G' H' → Good κ P' G' H' → SlRs κ H P' G' H' vs ss → Q ss P'.n → R vs H') → te σ H R
def DXs (κ : Kit) (X : Cx) (es : List Expr) (g : FXs) : Prop := ∃ t, PA X es t ∧ RdXs κ g t
section
variable {κ : Kit} {X : Cx} {H0 : Hp} {P : Wd} {G H : Hp} {σ : L2.St} {env : SEnv} {a b e : Expr} {st : Stmt} {sts : List Stmt} {fa fb f : FE} {fo : FA} {ft : FT} {s1 s2 : FS} {te : TE} {tt : TT} {pos : Pos} {es : List Expr} {far : FA} {fx : FX} {fxs : FXs}
/-! ### x[k] = e, x an own list -/
@[simp] def sSet (i : Nat) (fv fk : FE) : FS := fun D env n => fv (view env) n fun d m => flatD d = true ∧ ∃ xs, env[i]? = some (some (.own xs)) ∧ fk (view env) m fun k m2 => flatD k = true ∧ ∃ z j, k = .int z ∧ ixN xs.length z = some j ∧ D.nx (env.set i (some (.own (xs.set j d)))) m2
theorem set_lift {i : Nat} {tv tk : TE} (hv : RdE κ fa tv) (hk : RdE κ fb tk) : RdS κ (sSet i fa fb) (tAsg tv (L2.gSub (tVar i) tk rSetL)) := fun P0 G0 H0 P G H σ env D E gr g ev hf ok => by
  refine at_view hv g ev hf fun v P1 G1 H1 d gr1 g1 ev1 rv h1 => ?_
  obtain ⟨xs, hx, h1⟩ := h1
  obtain ⟨u, q1, a, ea, vs, k1, k2, k3, k4, k5, k6⟩ := ev1.get i _ hx
  subst ea
  refine ⟨_, q1, at_view hk g1 ev1 h1 fun w P2 G2 H2 dk gr2 g2 ev2 rw' h2 => ?_⟩
  obtain ⟨z, j, ez, hj, h2⟩ := h2
  subst ez
  cases rw'
  have o2 : OwnL κ H0 P2 G2 H2 a xs := OwnL.grow ⟨vs, k1, k2, k3, k4, k5, k6⟩ gr2
  obtain ⟨us, w1, w2, w3, w4, w5, w6⟩ := o2
  refine ⟨a, us, z, j, rfl, rfl, w1, by rw [w6.length]; exact hj, ?_⟩
  exact ok.nx P2 G2 _ σ _ (((gr.trans gr1).trans gr2).put w3) (g2.put w4 w5) (ev2.put hx q1 (by rw [List.length_set]; exact w2) (Reps.set (gr2.rep rv) j w6)) h2
theorem d1_set (i : Nat) {x : Str} {p2 p3 : Pos} {k : Expr} (hN : X.N[i]? = some x) (hv : Vis X.env.scope x) (hva : DE κ X e fa) (hk : DE κ X k fb) (hs : swapsWithSole [.Subscript (.Name x p2) k p3] e pos.line X.env = pure false := by rfl) (hw : swappedStores [.Subscript (.Name x p2) k p3] e X.env = pure none := by rfl)
    (h1 : (assignEach [.Subscript (.Name x p2) k p3] X.env).map (·.2) = [assign (.Subscript (.Name x p2) k p3) X.env] := by rfl) (hix : PlainIx k := by exact fun _ _ => rfl)
    (hd : (x == ("__debug__" : Str)) = false := by decide) (hcd : (x == ("__classdict__" : Str)) = false := by decide)
    (hg : ∀ {to ti : TE} {t : TSet}, PE X (.Name x p2) to → PE X k ti → PSet X t → PG X (.Subscript (.Name x p2) k p3) (L2.gSub to ti t) := by intro to ti t h1 h2 h3; exact pg_sub h1 h2 h3) :
    D1 κ X (.Assign [.Subscript (.Name x p2) k p3] e pos) (sSet i fa fb) := by
  obtain ⟨t, p, q⟩ := hva
  obtain ⟨tk, pk, qk⟩ := hk
  exact ⟨_, ps_asg p (hg (pe_var hN hv hd hcd) pk set_list) hs hw h1, set_lift q qk⟩

/-! ### a, b = e1, e2 -/
@[simp] def xV (f : FE) : FX := fun env n Q => f env n fun d m => Q (.val d) m
@[simp] def xO (f : FA) : FX := fun env n Q => f env n fun d m => Q (.own d) m
theorem dx_v (h : DE κ X e f) : DX κ X e (xV f) := by
  obtain ⟨t, p, q⟩ := h
  exact ⟨t, p, fun P G H σ env Q R g ev hf hR => q P G H σ env _ _ g ev hf fun v P' G' H' d gr g' r hq => hR v (.val d) P' G' H' gr g' r hq⟩
theorem dx_o (h : DO κ X e fo) : DX κ X e (xO fo) := by
  obtain ⟨t, p, q⟩ := h
  exact ⟨t, p, fun P G H σ env Q R g ev hf hR => q P G H σ env _ _ g ev hf fun a P' G' H' vs xs gr g' ha hg hi hh hz r hq => hR _ (.own xs) P' G' H' gr g' ⟨a, rfl, own_of ha hg hi hh hz r⟩ hq⟩
@[simp] def xNil : FXs := fun _ n Q => Q [] n
@[simp] def xCons (f : FX) (r : FXs) : FXs := fun env n Q => f env n fun x n1 => r env n1 fun xs n2 => Q (x :: xs) n2
theorem SlR.base {H0 H1 : Hp} {P : Wd} {G H : Hp} {v : V} {s : Sl} (h : ∀ a, H1 a = none → H0 a = none) (r : SlR κ H1 P G H v s) : SlR κ H0 P G H v s := by
  cases s with
  | val d => exact r
  | own xs => obtain ⟨a, e, vs, h1, h2, h3, h4⟩ := r; exact ⟨a, e, vs, h1, h2, h a h3, h4⟩
  | ownd ks ws => obtain ⟨a, e, kk, us, h1, hl, hz, hn, hk, h3, h4⟩ := r; exact ⟨a, e, kk, us, h1, hl, hz, hn, hk, h a h3, h4⟩
theorem SlRs.base {H0 H1 : Hp} {P : Wd} {G H : Hp} (h : ∀ a, H1 a = none → H0 a = none) : ∀ {vs : List V} {ss : List Sl}, SlRs κ H1 P G H vs ss → SlRs κ H0 P G H vs ss
  | [], [], _ => trivial
  | [], _ :: _, r => r.elim
  | _ :: _, [], r => r.elim
  | _ :: _, _ :: _, r => ⟨r.1.base h, r.2.1, SlRs.base h r.2.2⟩
theorem SlRs.get {H0 : Hp} {P : Wd} {G H : Hp} : ∀ {vs : List V} {ss : List Sl} {i : Nat} {t : Sl}, SlRs κ H0 P G H vs ss → ss[i]? = some t → ∃ v, vs[i]? = some v ∧ SlR κ H0 P G H v t
  | [], [], _, _, _, h => by simp at h
  | [], _ :: _, _, _, r, _ => r.elim
  | _ :: _, [], _, _, r, _ => r.elim
  | v :: vs, s :: ss, 0, t, r, h => by simp at h; subst h; exact ⟨v, rfl, r.1⟩
  | v :: vs, s :: ss, i + 1, t, r, h => by
    obtain ⟨u, h1, h2⟩ := SlRs.get (i := i) r.2.2 (by simpa using h)
    exact ⟨u, by simpa using h1, h2⟩
/-- an own slot's address was free ahead -/
theorem SlR.new {H0 : Hp} {P : Wd} {G H : Hp} {v : V} {s : Sl} (r : SlR κ H0 P G H v s) (h : isOwn s = true) : ∃ a, v = .ref a ∧ H0 a = none ∧ ∃ o, H a = some o := by
  cases s with
  | val d => cases h
  | own xs => obtain ⟨a, e, vs, h1, h2, h3, h4⟩ := r; exact ⟨a, e, h3, _, h1⟩
  | ownd ks ws => obtain ⟨a, e, kk, us, h1, hl, hz, hn, hk, h3, h4⟩ := r; exact ⟨a, e, h3, _, h1⟩
theorem dxs_nil : DXs κ X [] xNil := ⟨_, pa_nil, fun P G H σ env Q R g ev h hR => hR [] [] P G H .refl g trivial h⟩
theorem dxs_cons (ha : DX κ X e fx) (hr : DXs κ X es fxs) (hs : starEach (e :: es) X.env = (false, eval e X.env) :: starEach es X.env := by rfl) : DXs κ X (e :: es) (xCons fx fxs) := by
  obtain ⟨ta, pa, qa⟩ := ha
  obtain ⟨tb, pb, qb⟩ := hr
  refine ⟨_, pa_cons pa pb hs, fun P G H σ env Q R g ev hf hR => ?_⟩
  refine qa P G H σ env _ _ g ev hf fun x s P1 G1 H1 gr1 g1 rx hf1 => qb P1 G1 H1 σ env _ _ g1 (ev.grow gr1) hf1 fun xs ss P2 G2 H2 gr2 g2 rs hq => ?_
  refine hR _ (s :: ss) P2 G2 H2 (gr1.trans gr2) g2 ⟨rx.grow gr2, fun ho i t ht hto e => ?_, rs.base fun a h => gr1.back h⟩ hq
  obtain ⟨u, h1, h2⟩ := rs.get ht
  rw [e] at h1
  cases h1
  obtain ⟨a, ea, h3, _⟩ := h2.new hto
  obtain ⟨b, eb, _, o, h4⟩ := rx.new ho
  rw [ea] at eb
  cases eb
  rw [h4] at h3; cases h3
/-- the slots of several names, one behind the other -/
@[simp] def setS : List Nat → List Sl → SEnv → SEnv
  | i :: is, s :: ss, env => setS is ss (env.set i (some s))
  | _, _, env => env
def setV : List Nat → List V → L2.St → L2.St
  | i :: is, v :: vs, σ => setV is vs (σ.set i (some v))
  | _, _, σ => σ
theorem priv_set {i : Nat} {v : V} {s : Sl} {b : Addr} (hp : Priv (env.set i (some s)) (σ.set i (some v)) b) : Priv env σ b ∨ (isOwn s = true ∧ v = .ref b) := by
  obtain ⟨j, t, h1, h2, h3⟩ := hp
  by_cases hij : i = j
  · subst hij
    rw [List.getElem?_set] at h1 h3
    simp only [if_true] at h1 h3
    split at h1
    · cases h1
      split at h3
      · cases h3; exact .inr ⟨h2, rfl⟩
      · cases h3
    · cases h1
  · rw [List.getElem?_set_ne hij] at h1 h3
    exact .inl ⟨j, t, h1, h2, h3⟩
theorem SEnvR.setX (ev : SEnvR κ H0 P G H σ env) {i : Nat} {v : V} {s : Sl} (r : SlR κ H0 P G H v s) (hn : isOwn s = true → ∀ a, v = .ref a → ¬ Priv env σ a) : SEnvR κ H0 P G H (σ.set i (some v)) (env.set i (some s)) := by
  cases s with
  | val d => exact ev.set r
  | own xs =>
    obtain ⟨a, e, o⟩ := r
    subst e
    exact ev.setO (s := .own xs) ⟨a, rfl, o⟩ (hn rfl a rfl)
  | ownd ks vs =>
    obtain ⟨a, e, o⟩ := r
    subst e
    exact ev.setO (s := .ownd ks vs) ⟨a, rfl, o⟩ (hn rfl a rfl)
theorem SEnvR.setXs : ∀ {is : List Nat} {vs : List V} {ss : List Sl} {σ : L2.St} {env : SEnv}, SEnvR κ H0 P G H σ env → SlRs κ H0 P G H vs ss → (∀ (i : Nat) (t : Sl) (a : Addr), ss[i]? = some t → isOwn t = true → vs[i]? = some (.ref a) → ¬ Priv env σ a) → SEnvR κ H0 P G H (setV is vs σ) (setS is ss env)
  | [], vs, ss, σ, env, ev, _, _ => by simpa [setV, setS] using ev
  | _ :: _, [], [], σ, env, ev, _, _ => by simpa [setV, setS] using ev
  | _ :: _, [], _ :: _, _, _, _, r, _ => r.elim
  | _ :: _, _ :: _, [], _, _, _, r, _ => r.elim
  | i :: is, v :: vs, s :: ss, σ, env, ev, r, hn => by
    simp only [setV, setS]
    refine SEnvR.setXs (ev.setX r.1 fun ho a e => hn 0 s a rfl ho (by simp [e])) r.2.2 fun j t a h1 h2 h3 hp => ?_
    rcases priv_set hp with hp | ⟨ho, e⟩
    · exact hn (j + 1) t a (by simpa using h1) h2 (by simpa using h3) hp
    · subst e
      exact r.2.1 ho j t h1 h2 h3
@[simp] def sPar (is : List Nat) (f : FXs) : FS := fun D env n => f (hide env) n fun ss m => ss.length = is.length ∧ D.nx (setS is ss env) m
theorem SlRs.length {H0 : Hp} {P : Wd} {G H : Hp} : ∀ {vs : List V} {ss : List Sl}, SlRs κ H0 P G H vs ss → vs.length = ss.length
  | [], [], _ => rfl
  | [], _ :: _, r => r.elim
  | _ :: _, [], r => r.elim
  | _ :: _, _ :: _, r => by simp [SlRs.length r.2.2]
theorem par_new (ev : SEnvR κ H0 P G H σ env) {P' : Wd} {G' H' : Hp} {vs : List V} {ss : List Sl} (rs : SlRs κ H P' G' H' vs ss) (i : Nat) (t : Sl) (a : Addr) (h1 : ss[i]? = some t) (h2 : isOwn t = true) (h3 : vs[i]? = some (.ref a)) : ¬ Priv env σ a := fun hp => by
  obtain ⟨u, q1, q2⟩ := rs.get h1
  rw [h3] at q1
  cases q1
  obtain ⟨b, e, hb, _⟩ := q2.new h2
  cases e
  obtain ⟨_, _, _, o, ho⟩ := ev.priv hp
  rw [ho] at hb; cases hb
theorem d1_par (i j : Nat) {x y : Str} {px py pt : Pos} {kt k2 pt2} (hc : X.calm = true) (hN : X.N.Nodup) (hi : X.N[i]? = some x) (hj : X.N[j]? = some y) (hij : i ≠ j) (hxl : X.env.scope.names.lookup x = some .local) (hyl : X.env.scope.names.lookup y = some .local) (h : DXs κ X [a, b] fxs)
    (mk : ∀ {ta : TA}, PA X [a, b] ta → PS X (.Assign [.Tuple [.Name x px, .Name y py] kt pt] (.Tuple [a, b] k2 pt2) pos) (tPar i j ta)) : D1 κ X (.Assign [.Tuple [.Name x px, .Name y py] kt pt] (.Tuple [a, b] k2 pt2) pos) (sPar [i, j] fxs) := by
  obtain ⟨t, p, q⟩ := h
  refine ⟨_, mk p, fun P0 G0 H0 P G H σ env D E gr g ev hf ok => q P G H σ (hide env) _ _ g ev.hide hf fun vs ss P' G' H' gr' g' rs hq => ?_⟩
  have hl := rs.length
  rw [hq.1] at hl
  match vs, hl with
  | [v, w], _ =>
    refine ⟨v, w, rfl, ?_⟩
    exact ok.nx P' G' H' _ _ (gr.trans gr') g' (SEnvR.setXs (is := [i, j]) (ev.grow gr') (rs.base fun a ha => gr.back ha) (fun k t a h1 h2 h3 => par_new ev rs k t a h1 h2 h3)) hq.2
end
end DL

/-! ## DL13 -/
/-! DL13: y = [..], a tuple's names, defs by contract -/
namespace DL
open PySem PySem.Spec PyProof.Rows L2
section
variable {κ : Kit} {X : Cx} {H0 : Hp} {P : Wd} {G H : Hp} {σ : L2.St} {env : SEnv} {a b e : Expr} {st : Stmt} {sts : List Stmt} {fa fb f : FE} {fo : FA} {ft t1 : FT} {s1 s2 : FS} {te : TE} {tt : TT} {pos : Pos} {es : List Expr} {far : FA} {fx : FX} {fxs : FXs}
section
variable {i : Nat} {y : Str} {py : Pos} {elt tg iter : Expr} {ifs : List Expr} {scope : Scope} {spos : Pos} {sl : List Nat} {φ : FG}
theorem d1_lc (own : List (Str × Nat)) (hc : X.calm = true) (hN : X.N.Nodup) (hy : X.N[i]? = some y) (hyl : X.env.scope.names.lookup y = some .local)
    (hsw : swapsWith (.ListComp elt [⟨tg, iter, ifs, 0⟩] scope pos) (some (.Name y py)) spos.line X.env = pure true) (hi : DI κ X tg iter far) (ok : blkC X.N X.env.scope scope own = true)
    (hg : ∀ (s : Shared) (H : Hp) (C : Addr) (cl : List (Str × Addr)) (fp : List Addr), DG κ (X.blk s H scope (compEnvC scope cl C X.env) fp) tg sl φ)
    (ht : ∀ (s : Shared) (H : Hp) (C : Addr) (cl : List (Str × Addr)) (fp : List Addr), DTs κ (X.blk s H scope (compEnvC scope cl C X.env) fp) ifs t1)
    (he : ∀ (s : Shared) (H : Hp) (C : Addr) (cl : List (Str × Addr)) (fp : List Addr), DE κ (X.blk s H scope (compEnvC scope cl C X.env) fp) elt f)
    (hsl : ∀ i ∈ sl, i ∈ own.map (·.2) := by decide) (hs : ∀ x, foldedSetIterable iter X.env x = pure x := by intro _; rfl) :
    D1 κ X (.Assign [.Name y py] (.ListComp elt [⟨tg, iter, ifs, 0⟩] scope pos) spos) (sAsgO i (oComp far φ t1 f (own.map (·.2)))) := by
  obtain ⟨w, pw, qw⟩ := hi
  exact ⟨_, PS.lk (ps_setLc hc hN hy hyl hsw pw (blkOk_by ok) (fun s H C cl fp => (hg s H C cl fp).can) (fun s H C cl fp => (ht s H C cl fp).can) (fun s H C cl fp => (he s H C cl fp).can) hs), asgO_lift (lc_lift qw rd_tG rd_tT rd_tE hsl)⟩
theorem d1_lcV (own : List (Str × Nat)) (hc : X.calm = true) (hN : X.N.Nodup) (hy : X.N[i]? = some y) (hyl : X.env.scope.names.lookup y = some .local)
    (hsw : swapsWith (.ListComp elt [⟨tg, iter, ifs, 0⟩] scope pos) (some (.Name y py)) spos.line X.env = pure true) (hi : DI κ X tg iter far) (ok : blkC X.N X.env.scope scope own = true)
    (hg : ∀ (s : Shared) (H : Hp) (C : Addr) (cl : List (Str × Addr)) (fp : List Addr), DG κ (X.blk s H scope (compEnvC scope cl C X.env) fp) tg sl φ)
    (ht : ∀ (s : Shared) (H : Hp) (C : Addr) (cl : List (Str × Addr)) (fp : List Addr), DTs κ (X.blk s H scope (compEnvC scope cl C X.env) fp) ifs t1)
    (he : ∀ (s : Shared) (H : Hp) (C : Addr) (cl : List (Str × Addr)) (fp : List Addr), DE κ (X.blk s H scope (compEnvC scope cl C X.env) fp) elt f)
    (hsl : ∀ i ∈ sl, i ∈ own.map (·.2) := by decide) (hs : ∀ x, foldedSetIterable iter X.env x = pure x := by intro _; rfl) :
    D1 κ X (.Assign [.Name y py] (.ListComp elt [⟨tg, iter, ifs, 0⟩] scope pos) spos) (sAsgOV i (oComp far φ t1 f (own.map (·.2)))) := by
  obtain ⟨w, pw, qw⟩ := hi
  exact ⟨_, PS.lk (ps_setLc hc hN hy hyl hsw pw (blkOk_by ok) (fun s H C cl fp => (hg s H C cl fp).can) (fun s H C cl fp => (ht s H C cl fp).can) (fun s H C cl fp => (he s H C cl fp).can) hs), asgOV_lift (lc_lift qw rd_tG rd_tT rd_tE hsl)⟩
end
/-! ### a, b, .. = e1, e2, .. by a tuple that is made (a name that an inner block reads) -/
structure Names (X : Cx) (tgs : List Expr) (is : List Nat) : Prop where
  pg : ∃ g, PGs X tgs g ∧ ∀ (vs : List V) (σ : L2.St) (H : Hp) (R : L2.St → Hp → Prop), vs.length = is.length → R (setV is vs σ) H → g vs σ H R
theorem names_nil : Names X [] [] := ⟨⟨_, pgs_nil, fun vs σ H R h hR => by
  match vs, h with
  | [], _ => exact ⟨rfl, hR⟩⟩⟩
theorem names_cons (i : Nat) {is : List Nat} {x : Str} (hN : X.N.Nodup) (hi : X.N[i]? = some x) (hx : Loc X.env.scope x) (r : Names X es is) (hf : X.fn x = true ∨ X.env.scope.names.lookup x = some .local := by first | exact .inl rfl | exact .inr rfl | assumption)
    (hs : (assignEach (.Name x pos :: es) X.env).map (·.2) = assign (.Name x pos) X.env :: (assignEach es X.env).map (·.2) := by rfl) : Names X (.Name x pos :: es) (i :: is) := by
  obtain ⟨g, p, q⟩ := r.pg
  refine ⟨⟨_, pgs_cons (pg_name hN hi hx hf) p hs, fun vs σ H R h hR => ?_⟩⟩
  match vs, h with
  | v :: vs, h => exact ⟨v, vs, rfl, q vs _ H R (by simpa using h) hR⟩
theorem d1_tupAsg {tgs : List Expr} {is : List Nat} {k1 k2 : _} {pt p2 : Pos} (hc : X.calm = true) (hz : is.length ≤ 1000) (h : DXs κ X es fxs) (r : Names X tgs is) (hn : (assignEach tgs X.env).length = is.length := by rfl) (hst : (assignEach tgs X.env).findIdx? (·.1) = none := by rfl)
    (hs : swapsWithSole [.Tuple tgs k1 pt] (.Tuple es k2 p2) pos.line X.env = pure false := by rfl) (hw : swappedStores [.Tuple tgs k1 pt] (.Tuple es k2 p2) X.env = pure none := by rfl) (h1 : (assignEach [.Tuple tgs k1 pt] X.env).map (·.2) = [assign (.Tuple tgs k1 pt) X.env] := by rfl) :
    D1 κ X (.Assign [.Tuple tgs k1 pt] (.Tuple es k2 p2) pos) (sPar is fxs) := by
  obtain ⟨t, p, q⟩ := h
  obtain ⟨g, pg, qg⟩ := r.pg
  refine ⟨_, ps_asg (pe_tup p) (pg_tup hc pg hn hst) hs hw h1, fun P0 G0 H0 P G H σ env D E gr gd ev hf ok => q P G H σ (hide env) _ _ gd ev.hide hf fun vs ss P' G' H' gr' g' rs hq => ?_⟩
  have hl := rs.length
  refine ⟨by rw [hl, hq.1]; exact Nat.le_trans hz (by decide), fun tp htp => ?_⟩
  refine ⟨tp, vs, rfl, SqT.of upd_same, by rw [hl, hq.1], qg vs σ _ _ (by rw [hl, hq.1]) ?_⟩
  have gn : Grow P' G' H' P' G' (upd H' tp (.tup vs)) := Grow.new htp
  have rs' : ∀ {vs ss}, SlRs κ H P' G' H' vs ss → SlRs κ H P' G' (upd H' tp (.tup vs)) vs ss := fun {vs ss} h => by
    have : ∀ {o : HO} {vs : List V} {ss : List Sl}, SlRs κ H P' G' H' vs ss → SlRs κ H P' G' (upd H' tp o) vs ss := fun {o vs ss} h => by
      induction vs generalizing ss with
      | nil => cases ss with
        | nil => trivial
        | cons => exact h.elim
      | cons v vs ih => cases ss with
        | nil => exact h.elim
        | cons s ss => exact ⟨h.1.grow (Grow.new htp), h.2.1, ih h.2.2⟩
    exact this h
  exact ok.nx P' G' _ _ _ ((gr.trans gr').trans gn) (g'.new htp) (SEnvR.setXs ((ev.grow gr').grow gn) (SlRs.base (fun a ha => gr.back ha) (rs' rs)) (fun k t a h1 h2 h3 => par_new ev rs k t a h1 h2 h3)) hq.2

/-! ### defs -/
abbrev FC := List D → Nat → (Sl → Nat → Prop) → Prop
/-- the promise: from data to data -/
def spD (κ : Kit) (k : Nat) (F : FC) : Sp := fun vs H Q _ => vs.length = k ∧ ∃ P G ds QD, Good κ P G H ∧ Reps κ G P.iv vs ds ∧ F ds P.n QD ∧ ∀ v s P' G' H', Grow P G H P' G' H' → Good κ P' G' H' → SlR κ H P' G' H' v s → QD s P'.n → Q v H'
@[simp] def startE (k : Nat) (ds : List D) : SEnv := ds.map (fun d => some (.val d)) ++ List.replicate k none
theorem start_env {N : List Str} {vs : List V} {ds : List D} {m : Nat} (g : Good κ P G H) (r : Reps κ G P.iv vs ds) (hm : m = N.length - vs.length) : SEnvR κ H P G H (L2.start N vs) (startE m ds) := by
  subst hm
  have hl := r.length
  refine ⟨by unfold startE L2.start; simp [hl], fun i s h => ?_, fun i j s t a hij h1 h2 o1 o2 e1 e2 => ?_⟩
  · unfold startE at h
    rw [List.getElem?_append] at h
    split at h
    · rename_i hi
      rw [List.length_map] at hi
      rw [List.getElem?_map, List.getElem?_eq_getElem hi] at h
      cases h
      obtain ⟨v, h1, h2⟩ := r.get (List.getElem?_eq_getElem hi)
      refine ⟨v, ?_, h2⟩
      unfold L2.start
      rw [List.getElem?_append_left (by rw [List.length_map, hl]; exact hi), List.getElem?_map, h1]
      rfl
    · rw [List.getElem?_replicate] at h
      split at h <;> cases h
  · unfold startE at h1
    rw [List.getElem?_append] at h1
    split at h1
    · rw [List.getElem?_map] at h1
      cases e : ds[i]? with
      | none => rw [e] at h1; cases h1
      | some d => rw [e] at h1; cases h1; cases o1
    · rw [List.getElem?_replicate] at h1
      split at h1 <;> cases h1
end
section
variable {κ : Kit} {P : Program} {w : World} {mg : Str → Option Value} {base : Heap} {K : PySem.W.Frag}
/-- THE RULE of a def: its body reads as f, and what is promised leads into f -/
theorem fn_dl {x qual : Str} {st : Stmt} {fa : Addr} {fd : FuncData} {N ps : List Str} {k : Nat} {F : FC} {f : FS} (Fn : Fun K x qual st fa fd) (S : FnScope N ps (defScope st))
    (hb : ∀ (cdv : Value) (A : Around) (outer : List Env) (s : Shared) (H : Hp) (E : XK), Room k (A.deeper (envOfC qual (defScope st) s.heap.objs.size fa cdv)) → DS κ (cxOf CX0 P w K mg base N qual (defScope st) fa cdv A outer s H E).nox (defBody st) f)
    (hF : ∀ ds n Q, F ds n Q → ds.length = ps.length → f { nx := fun _ m => Q (.val .non) m, rt := Q } (startE (N.length - ps.length) ds) n) : FnOk P w K mg base CX0 (k + 1) fa fd ps (spD κ ps.length F) := by
  refine Fn.ok S (fun vs H Q E h => h.1) (fun cdv A outer s H vs Q E hr h => ?_)
  obtain ⟨hl, Pw, G, ds, QD, g, r, hf, hQ⟩ := h
  obtain ⟨t, p, q⟩ := hb cdv A outer s H E hr
  refine ⟨t, p, q Pw G H Pw G H _ _ _ _ .refl g (start_env g r (by rw [hl])) (hF ds Pw.n QD hf (by rw [← r.length]; exact hl)) ⟨?_, ?_, ?_, ?_⟩⟩
  · exact fun P' G' H' σ env gr g' ev h => hQ .non (.val .non) P' G' H' gr g' .non h
  · exact fun v s P' G' H' gr g' rs h => hQ v s P' G' H' gr g' rs h
  · exact fun P' G' H' σ env gr g' ev h => h.elim
  · exact fun P' G' H' σ env gr g' ev h => h.elim
theorem fn_dlD {x qual : Str} {st : Stmt} {dvs : List V} {fa : Addr} {fd : FuncData} {N ps : List Str} {k : Nat} {F : FC} {f : FS} (Fn : FunD K x qual (defArgs st) (defBody st) (defScope st) dvs [] fa fd) (S : FnScope N ps (defScope st))
    (hb : ∀ (cdv : Value) (A : Around) (outer : List Env) (s : Shared) (H : Hp) (E : XK), Room k (A.deeper (envOfC qual (defScope st) s.heap.objs.size fa cdv)) → DS κ (cxOf CX0 P w K mg base N qual (defScope st) fa cdv A outer s H E).nox (defBody st) f)
    (hF : ∀ ds n Q, F ds n Q → ds.length = ps.length → f { nx := fun _ m => Q (.val .non) m, rt := Q } (startE (N.length - ps.length) ds) n) : FnOk P w K mg base CX0 (k + 1) fa fd ps (spD κ ps.length F) := by
  refine Fn.ok S (fun vs H Q E h => h.1) (fun cdv A outer s H vs Q E hr h => ?_)
  obtain ⟨hl, Pw, G, ds, QD, g, r, hf, hQ⟩ := h
  obtain ⟨t, p, q⟩ := hb cdv A outer s H E hr
  refine ⟨t, p.nox, q Pw G H Pw G H _ _ _ _ .refl g (start_env g r (by rw [hl])) (hF ds Pw.n QD hf (by rw [← r.length]; exact hl)) ⟨?_, ?_, ?_, ?_⟩⟩
  · exact fun P' G' H' σ env gr g' ev h => hQ .non (.val .non) P' G' H' gr g' .non h
  · exact fun v s P' G' H' gr g' rs h => hQ v s P' G' H' gr g' rs h
  · exact fun P' G' H' σ env gr g' ev h => h.elim
  · exact fun P' G' H' σ env gr g' ev h => h.elim
end
section
variable {κ : Kit} {X : Cx} {e : Expr} {es : List Expr} {far : FA} {pos p : Pos} {x : Str} {k j : Nat} {f : Addr} {fd : FuncData} {ps : List Str} {F : FC} {dvs : List V} {ds : List Value} {dds : List D}
theorem own_frz {P : Wd} {G H : Hp} {G1 H1 : Hp} {P1 : Wd} {a : Addr} {xs : List D} (gr : Grow P G H P1 G1 H1) (g : Good κ P1 G1 H1) (o : OwnL κ H P1 G1 H1 a xs) : ∃ G2, Grow P G H P1 G2 H1 ∧ Good κ P1 G2 H1 ∧ Rep κ G2 P1.iv (.ref a) (.lst xs) := by
  obtain ⟨vs, h1, h2, h3, h4, h5, h6⟩ := o
  exact ⟨upd G1 a (.lst vs), gr.frz h3 h4, g.frz h4 h5 h1, .lst upd_same h2 (reps_frz h4 h6)⟩
theorem ownd_frz {P : Wd} {G H : Hp} {G1 H1 : Hp} {P1 : Wd} {a : Addr} {ks vs : List D} (gr : Grow P G H P1 G1 H1) (g : Good κ P1 G1 H1) (o : OwnD κ H P1 G1 H1 a ks vs) : ∃ G2, Grow P G H P1 G2 H1 ∧ Good κ P1 G2 H1 ∧ Rep κ G2 P1.iv (.ref a) (.dct ks vs) := by
  obtain ⟨kk, us, h1, hl, hz, hn, hk, h3, h4, h5, h6⟩ := o
  subst hk
  exact ⟨upd G1 a (.dK (kk.zip us)), gr.frz h3 h4, g.frz h4 h5 h1, .dctK upd_same hl hz hn (reps_frz h4 h6)⟩
theorem sl_frz {P : Wd} {G H : Hp} {G1 H1 : Hp} {P1 : Wd} {v : V} {s : Sl} (gr : Grow P G H P1 G1 H1) (g : Good κ P1 G1 H1) (r : SlR κ H P1 G1 H1 v s) : ∃ G2, Grow P G H P1 G2 H1 ∧ Good κ P1 G2 H1 ∧ Rep κ G2 P1.iv v s.view := by
  cases s with
  | val d => exact ⟨G1, gr, g, r⟩
  | own xs => obtain ⟨a, e, o⟩ := r; subst e; exact own_frz gr g o
  | ownd ks vs => obtain ⟨a, e, o⟩ := r; subst e; exact ownd_frz gr g o
/-- f(..) as a value; as a new list; as either -/
@[simp] def fCall (j : Nat) (F : FC) (dds : List D) (far : FA) : FE := fun env n Q => far env n fun ds m => (ds ++ dds).length = j ∧ F (ds ++ dds) m fun s k => Q s.view k
@[simp] def oCall (j : Nat) (F : FC) (dds : List D) (far : FA) : FA := fun env n Q => far env n fun ds m => (ds ++ dds).length = j ∧ F (ds ++ dds) m fun s k => ∃ xs, s = .own xs ∧ Q xs k
@[simp] def xCall (j : Nat) (F : FC) (dds : List D) (far : FA) : FX := fun env n Q => far env n fun ds m => (ds ++ dds).length = j ∧ F (ds ++ dds) m Q
theorem call_lift {t : TA} (hdd : ∀ (G : Hp) (iv : IV), Reps κ G iv dvs dds) (ha : RdA κ far t) : RdX κ (xCall j F dds far) (tCall (spD κ j F) dvs E0 t) := fun P G H σ env Q R g ev hf hR =>
  ha P G H σ env _ _ g ev hf fun vs P1 G1 H1 ds gr1 g1 r1 h1 => by
    have r := r1.append (hdd G1 P1.iv)
    exact ⟨by rw [r.length]; exact h1.1, P1, G1, ds ++ dds, Q, g1, r, h1.2, fun v s P2 G2 H2 gr2 g2 rs hq => hR v s P2 G2 H2 (gr1.trans gr2) g2 (rs.base fun a ha => gr1.back ha) hq⟩
/-- a def of the module that keeps its promise, by at most k levels; dds: the defaults that fill up -/
def Cal (κ : Kit) (P : Program) (w : World) (K : PySem.W.Frag) (mg : Str → Option Value) (base : Heap) (x : Str) (k j : Nat) (F : FC) (dds : List D) : Prop :=
  ∃ (f : Addr) (fd : FuncData) (ps : List Str) (dvs : List V) (ds : List Value), FnOk P w K mg base CX0 k f fd ps (spD κ j F) ∧ mg x = some (.ref f) ∧ PySem.W.keepIn K (.ref f) = true ∧ Binds K fd ps ds ∧ Vals dvs ds ∧ ∀ (G : Hp) (iv : IV), Reps κ G iv dvs dds
theorem Cal.mono {P : Program} {w : World} {K : PySem.W.Frag} {mg : Str → Option Value} {base : Heap} {x : Str} {k k' j : Nat} {F : FC} {dds : List D} (c : Cal κ P w K mg base x k j F dds) (h : k ≤ k') : Cal κ P w K mg base x k' j F dds := by
  obtain ⟨f, fd, ps, dvs, ds, Fn, r⟩ := c
  exact ⟨f, fd, ps, dvs, ds, Fn.mono h, r⟩
variable {k' : Nat} (c : Cal κ X.prog X.w X.K X.mg X.base x k j F dds) (hr : Room k' X.A)
include c hr
theorem dx_call (ha : DA κ X (e :: es) far) (hk : k ≤ k' := by first | decide | exact Nat.le_refl _ | omega) (hg : Gl X x := by rfl) (hdb : (x == ("__debug__" : Str)) = false := by decide) (he : starEach (e :: es) X.env = (false, eval e X.env) :: starEach es X.env := by rfl) (hpl : (backTo pos (starEach es X.env)).any (·.1) = false := by rfl) :
    DX κ X (.Call (.Name x p) (e :: es) [] pos) (xCall j F dds far) := by
  obtain ⟨f, fd, ps, dvs, ds, Fn, hm, hkp, hb, hd, hdd⟩ := c
  obtain ⟨t, pt, q⟩ := ha
  exact ⟨_, pe_call Fn (hr.mono hk) hg hm hkp hb hd pass0 pt hdb he hpl, call_lift hdd q⟩
theorem dx_call0 (hk : k ≤ k' := by first | decide | exact Nat.le_refl _ | omega) (hg : Gl X x := by rfl) (hdb : (x == ("__debug__" : Str)) = false := by decide) :
    DX κ X (.Call (.Name x p) [] [] pos) (xCall j F dds aNil) := by
  obtain ⟨f, fd, ps, dvs, ds, Fn, hm, hkp, hb, hd, hdd⟩ := c
  exact ⟨_, pe_call0 Fn (hr.mono hk) hg hm hkp hb hd pass0 hdb, call_lift hdd fun P G H σ env Q R g ev h hR => hR [] P G H [] .refl g .nil h⟩
omit c hr in
theorem DX.de {e : Expr} {far : FA} (h : DX κ X e (xCall j F dds far)) : DE κ X e (fCall j F dds far) := by
  obtain ⟨t, pt, q⟩ := h
  refine ⟨t, pt, fun P G H σ env Q R g ev hf hR => q P G H σ env (fun s k => Q s.view k) R g ev hf fun v s P' G' H' gr g' rs hq => ?_⟩
  obtain ⟨G2, gr2, g2, r2⟩ := sl_frz gr g' rs
  exact hR v P' G2 H' _ gr2 g2 r2 hq
omit c hr in
theorem DX.do {e : Expr} {far : FA} (h : DX κ X e (xCall j F dds far)) : DO κ X e (oCall j F dds far) := by
  obtain ⟨t, pt, q⟩ := h
  refine ⟨t, pt, fun P G H σ env Q R g ev hf hR => q P G H σ env (fun s k => ∃ xs, s = .own xs ∧ Q xs k) R g ev hf fun v s P' G' H' gr g' rs hq => ?_⟩
  obtain ⟨xs, e, hq⟩ := hq
  subst e
  obtain ⟨a, ea, vs, h1, h2, h3, h4, h5, h6⟩ := rs
  subst ea
  exact hR a P' G' H' vs xs gr g' h3 h4 h5 h1 h2 h6 hq
theorem de_call (ha : DA κ X (e :: es) far) (hk : k ≤ k' := by first | decide | exact Nat.le_refl _ | omega) (hg : Gl X x := by rfl) (hdb : (x == ("__debug__" : Str)) = false := by decide) (he : starEach (e :: es) X.env = (false, eval e X.env) :: starEach es X.env := by rfl) (hpl : (backTo pos (starEach es X.env)).any (·.1) = false := by rfl) :
    DE κ X (.Call (.Name x p) (e :: es) [] pos) (fCall j F dds far) := (dx_call c hr ha hk hg hdb he hpl).de
theorem do_call (ha : DA κ X (e :: es) far) (hk : k ≤ k' := by first | decide | exact Nat.le_refl _ | omega) (hg : Gl X x := by rfl) (hdb : (x == ("__debug__" : Str)) = false := by decide) (he : starEach (e :: es) X.env = (false, eval e X.env) :: starEach es X.env := by rfl) (hpl : (backTo pos (starEach es X.env)).any (·.1) = false := by rfl) :
    DO κ X (.Call (.Name x p) (e :: es) [] pos) (oCall j F dds far) := (dx_call c hr ha hk hg hdb he hpl).do
end
end DL

/-! ## DL14 -/
/-! DL14: short words for terms -/
namespace DL
open PySem PySem.Spec PyProof.Rows L2
section
variable {κ : Kit} {X : Cx} {a b c e o tg : Expr} {es : List Expr} {fa fb fc f : FE} {fo fo2 : FA} {far : FA} {pos p p2 : Pos} {t1 t2 : FT} {x : Str} {k : Nat}
theorem v (i : Nat) (hN : X.N[i]? = some x := by rfl) (hv : Vis X.env.scope x := by first | exact Or.inl rfl | exact Or.inr (Or.inl rfl) | exact Or.inr (Or.inr rfl)) (hd : (x == ("__debug__" : Str)) = false := by decide) (hcd : (x == ("__classdict__" : Str)) = false := by decide) : DE κ X (.Name x pos) (fVar i) := de_var hN hv hd hcd
theorem c_str {j} (s : List Nat) (hs : x = ⟨s.toArray⟩ := by rfl) (hl : OkS s := by exact ⟨by decide, by decide⟩) : DE κ X (.Constant (.str x) j pos) (fC (.str s)) := de_str s hs hl
/-- a + b: ints, texts, lists -/
def gAdd3 (x y : D) (n : Nat) (Q : D → Nat → Prop) : Prop := match x, y with
  | .int i, .int j => Q (.int (i + j)) n
  | .str s, .str t => s.length + t.length ≤ 16777216 ∧ Q (.str (s ++ t)) n
  | .lst xs, .lst ys => xs.length + ys.length ≤ 16777216 ∧ Q (.lst (xs ++ ys)) n
  | .tup xs, .tup ys => xs.length + ys.length ≤ 16777216 ∧ Q (.tup (xs ++ ys)) n
  | _, _ => False
theorem e_add (ha : DE κ X a fa) (hb : DE κ X b fb) : DE κ X (.BinOp a .Add b pos) (f2 gAdd3 fa fb) := by
  have hl : sizeLine = 16777216 := sizeLine_eq
  refine de_op (r := fun x y H Q => (rI0 fun i j => .int (i + j)) x y H Q ∨ ((∃ i j, x = .str i ∧ y = .str j ∧ i.length + j.length ≤ sizeLine ∧ Q (.str (i ++ j)) H) ∨ (rCat x y H Q ∨ rCatA X.K x y H Q))) ?_ (OpR.or op_add (OpR.or op_add_str (OpR.or op_cat op_catA))) ha hb
  intro P G H x y dx dy Q R g rx ry hf hR
  cases rx <;> cases ry <;> try (exact False.elim hf)
  · exact .inl ⟨_, _, rfl, rfl, hR _ P G H _ .refl g .int hf⟩
  · rename_i s hs t ht
    refine .inr (.inl ⟨_, _, rfl, rfl, ?_, ?_⟩)
    · rw [str_len, str_len, hl]; exact hf.1
    · rw [str_app]; exact hR _ P G H _ .refl g (.str (hs.app ht (by rw [hl]; exact hf.1))) hf.2
  · rename_i a1 vs1 xs1 h1 z1 r1 a2 vs2 xs2 h2 z2 r2
    have hz : vs1.length + vs2.length ≤ sizeLine := by rw [r1.length, r2.length, hl]; exact hf.1
    refine .inr (.inr (.inl ⟨_, _, _, _, rfl, rfl, g.gx h1 rfl, g.gx h2 rfl, hz, fun p hp => ?_⟩))
    exact hR _ P (upd G p (.lst _)) _ _ ((Grow.new hp).frz hp (g.gnone hp)) ((g.new hp).frz (g.gnone hp) (g.inone hp) upd_same) (.lst upd_same (by rw [List.length_append]; exact hz) (reps_frz (g.gnone hp) (r1.append r2))) hf.2
  · rename_i a1 vs1 xs1 h1 z1 r1 a2 vs2 xs2 h2 z2 r2
    have hz : vs1.length + vs2.length ≤ sizeLine := by rw [r1.length, r2.length, hl]; exact hf.1
    refine .inr (.inr (.inr ⟨_, _, _, _, rfl, rfl, SqT.of (g.gx h1 rfl), SqT.of (g.gx h2 rfl), hz, fun e => ?_, fun _ e => ?_, fun _ _ p hp => ?_⟩))
    · subst e
      cases r1
      exact hR _ P G H _ .refl g (.tup h2 z2 r2) hf.2
    · subst e
      cases r2
      exact hR _ P G H _ .refl g (by rw [List.append_nil]; exact .tup h1 z1 r1) hf.2
    · exact hR _ P (upd G p (.tup _)) _ _ ((Grow.new hp).frz hp (g.gnone hp)) ((g.new hp).frz (g.gnone hp) (g.inone hp) upd_same) (.tup upd_same (by rw [List.length_append]; exact hz) (reps_frz (g.gnone hp) (r1.append r2))) hf.2
theorem e_sub (ha : DE κ X a fa) (hb : DE κ X b fb) : DE κ X (.BinOp a .Sub b pos) (f2 gSub fa fb) := de_sub ha hb
theorem e_mul (ha : DE κ X a fa) (hb : DE κ X b fb) : DE κ X (.BinOp a .Mult b pos) (f2 gMul fa fb) := de_mul ha hb
theorem e_div (ha : DE κ X a fa) (hb : DE κ X b fb) : DE κ X (.BinOp a .FloorDiv b pos) (f2 gDiv fa fb) := de_div ha hb
theorem e_mod (ha : DE κ X a fa) (hb : DE κ X b fb) : DE κ X (.BinOp a .Mod b pos) (f2 gMod fa fb) := de_mod ha hb
theorem e_pow (ha : DE κ X a fa) (hb : DE κ X b fb) : DE κ X (.BinOp a .Pow b pos) (f2 gPow fa fb) := de_pow ha hb
theorem e_lt (ha : DE κ X a fa) (hb : DE κ X b fb) : DE κ X (.Compare a [.Lt] [b] pos) (f2 gLt fa fb) := CR.de (cr_lt) ha hb (nomark _)
theorem t_lt (ha : DE κ X a fa) (hb : DE κ X b fb) : DT κ X (.Compare a [.Lt] [b] pos) (tVal (f2 gLt fa fb)) := CR.dt (cr_lt) ha hb (nomark _)
theorem e_le (ha : DE κ X a fa) (hb : DE κ X b fb) : DE κ X (.Compare a [.LtE] [b] pos) (f2 gLe fa fb) := CR.de (cr_le) ha hb (nomark _)
theorem t_le (ha : DE κ X a fa) (hb : DE κ X b fb) : DT κ X (.Compare a [.LtE] [b] pos) (tVal (f2 gLe fa fb)) := CR.dt (cr_le) ha hb (nomark _)
theorem e_gt (ha : DE κ X a fa) (hb : DE κ X b fb) : DE κ X (.Compare a [.Gt] [b] pos) (f2 gGt fa fb) := CR.de (cr_gt) ha hb (nomark _)
theorem t_gt (ha : DE κ X a fa) (hb : DE κ X b fb) : DT κ X (.Compare a [.Gt] [b] pos) (tVal (f2 gGt fa fb)) := CR.dt (cr_gt) ha hb (nomark _)
theorem e_ge (ha : DE κ X a fa) (hb : DE κ X b fb) : DE κ X (.Compare a [.GtE] [b] pos) (f2 gGe fa fb) := CR.de (cr_ge) ha hb (nomark _)
theorem t_ge (ha : DE κ X a fa) (hb : DE κ X b fb) : DT κ X (.Compare a [.GtE] [b] pos) (tVal (f2 gGe fa fb)) := CR.dt (cr_ge) ha hb (nomark _)
theorem e_eq (hr : Room k X.A) (ha : DE κ X a fa) (hb : DE κ X b fb) : DE κ X (.Compare a [.Eq] [b] pos) (f2 gEq fa fb) := CR.de (cr_eq hr.units) ha hb (nomark _)
theorem t_eq (hr : Room k X.A) (ha : DE κ X a fa) (hb : DE κ X b fb) : DT κ X (.Compare a [.Eq] [b] pos) (tVal (f2 gEq fa fb)) := CR.dt (cr_eq hr.units) ha hb (nomark _)
theorem e_ne (hr : Room k X.A) (ha : DE κ X a fa) (hb : DE κ X b fb) : DE κ X (.Compare a [.NotEq] [b] pos) (f2 gNe fa fb) := CR.de (cr_ne hr.units) ha hb (nomark _)
theorem t_ne (hr : Room k X.A) (ha : DE κ X a fa) (hb : DE κ X b fb) : DT κ X (.Compare a [.NotEq] [b] pos) (tVal (f2 gNe fa fb)) := CR.dt (cr_ne hr.units) ha hb (nomark _)
theorem e_isN (ha : DE κ X a fa) (hb : DE κ X b fb) : DE κ X (.Compare a [.Is] [b] pos) (f2 gIsN fa fb) := CR.de (cr_isN) ha hb (nomark _)
theorem t_isN (ha : DE κ X a fa) (hb : DE κ X b fb) : DT κ X (.Compare a [.Is] [b] pos) (tVal (f2 gIsN fa fb)) := CR.dt (cr_isN) ha hb (nomark _)
theorem e_notN (ha : DE κ X a fa) (hb : DE κ X b fb) : DE κ X (.Compare a [.IsNot] [b] pos) (f2 gNotN fa fb) := CR.de (cr_notN) ha hb (nomark _)
theorem t_notN (ha : DE κ X a fa) (hb : DE κ X b fb) : DT κ X (.Compare a [.IsNot] [b] pos) (tVal (f2 gNotN fa fb)) := CR.dt (cr_notN) ha hb (nomark _)
theorem e_in (hr : Room k X.A) (ha : DE κ X a fa) (hb : DE κ X b fb) (hm : behindInMarks .In b = false := by rfl) : DE κ X (.Compare a [.In] [b] pos) (f2 gIn fa fb) := CR.de (cr_in (hu_of hr)) ha hb hm
theorem t_in (hr : Room k X.A) (ha : DE κ X a fa) (hb : DE κ X b fb) (hm : behindInMarks .In b = false := by rfl) : DT κ X (.Compare a [.In] [b] pos) (tVal (f2 gIn fa fb)) := CR.dt (cr_in (hu_of hr)) ha hb hm
theorem e_notIn (hr : Room k X.A) (ha : DE κ X a fa) (hb : DE κ X b fb) (hm : behindInMarks .NotIn b = false := by rfl) : DE κ X (.Compare a [.NotIn] [b] pos) (f2 gNotIn fa fb) := CR.de (cr_notIn (hu_of hr)) ha hb hm
theorem t_notIn (hr : Room k X.A) (ha : DE κ X a fa) (hb : DE κ X b fb) (hm : behindInMarks .NotIn b = false := by rfl) : DT κ X (.Compare a [.NotIn] [b] pos) (tVal (f2 gNotIn fa fb)) := CR.dt (cr_notIn (hu_of hr)) ha hb hm
theorem e_ix (hr : Room k X.A) (ha : DE κ X a fa) (hb : DE κ X b fb) (hs : PlainIx b := by exact fun _ _ => rfl) : DE κ X (.Subscript a b pos) (f2 gIx fa fb) := de_ix (hu_of hr) ha hb hs
section
variable (ha : DE κ X e f)
theorem e_isi (T : Ty) {y : Str} (hm : X.mg "isinstance" = none) (hmT : X.mg y = none) (ha : DE κ X e f) (hg : Gl X "isinstance" := by rfl) (hgT : Gl X y := by rfl) (hy : y = Str.ofString T.nm := by rfl)
    (he : starEach [e, .Name y p2] X.env = (false, eval e X.env) :: starEach [.Name y p2] X.env := by rfl) (he2 : starEach [.Name y p2] X.env = (false, eval (.Name y p2) X.env) :: starEach [] X.env := by rfl) (hpl : (backTo pos (starEach [.Name y p2] X.env)).any (·.1) = false := by rfl) :
    DE κ X (.Call (.Name "isinstance" p) [e, .Name y p2] [] pos) (fIsi T f) := de_isi T ha hg hm hgT hmT hy he he2 hpl
theorem ty_cons (T : Ty) {Ts : List Ty} {y : Str} (hmT : X.mg y = none) (r : DTys X es Ts) (hgT : Gl X y := by rfl) (hy : y = Str.ofString T.nm := by rfl) (he2 : starEach (.Name y p2 :: es) X.env = (false, eval (.Name y p2) X.env) :: starEach es X.env := by rfl) : DTys X (.Name y p2 :: es) (T :: Ts) := dtys_cons T r hgT hmT hy he2
theorem e_isiT {Ts : List Ty} {x1} (hm : X.mg "isinstance" = none) (ha : DE κ X e f) (hTs : DTys X es Ts) (hz : Ts.length ≤ 100 := by decide) (hg : Gl X "isinstance" := by rfl)
    (he : starEach [e, .Tuple es x1 p2] X.env = (false, eval e X.env) :: starEach [.Tuple es x1 p2] X.env := by rfl) (he2 : starEach [.Tuple es x1 p2] X.env = (false, eval (.Tuple es x1 p2) X.env) :: starEach [] X.env := by rfl) (hpl : (backTo pos (starEach [.Tuple es x1 p2] X.env)).any (·.1) = false := by rfl) :
    DE κ X (.Call (.Name "isinstance" p) [e, .Tuple es x1 p2] [] pos) (fIsiT Ts f) := de_isiT Ts hz ha hTs hg hm he he2 hpl
theorem da_one (ha : DE κ X e f) (hs : starEach [e] X.env = (false, eval e X.env) :: starEach [] X.env := by rfl) : DA κ X [e] (aCons f aNil) := da_cons ha da_nil hs
theorem e_len (hm : X.mg "len" = none) (ha : DE κ X e f) (hK : κ.K = X.K := by rfl) (hg : Gl X "len" := by rfl) (he : starEach [e] X.env = (false, eval e X.env) :: starEach [] X.env := by rfl) (hpl : (backTo pos (starEach [] X.env)).any (·.1) = false := by rfl) : DE κ X (.Call (.Name "len" p) [e] [] pos) (fCl gLen (aCons f aNil)) := de_len hK rfl hg hm (da_one ha he) he hpl
theorem e_all (hm : X.mg "all" = none) (ha : DE κ X e f) (hc : X.calm = true := by rfl) (hg : Gl X "all" := by rfl) (he : starEach [e] X.env = (false, eval e X.env) :: starEach [] X.env := by rfl) (hpl : (backTo pos (starEach [] X.env)).any (·.1) = false := by rfl) : DE κ X (.Call (.Name "all" p) [e] [] pos) (fCl gAll (aCons f aNil)) := de_all hc rfl hg hm (da_one ha he) he hpl
theorem e_any (hm : X.mg "any" = none) (ha : DE κ X e f) (hc : X.calm = true := by rfl) (hg : Gl X "any" := by rfl) (he : starEach [e] X.env = (false, eval e X.env) :: starEach [] X.env := by rfl) (hpl : (backTo pos (starEach [] X.env)).any (·.1) = false := by rfl) : DE κ X (.Call (.Name "any" p) [e] [] pos) (fCl gAny (aCons f aNil)) := de_any hc rfl hg hm (da_one ha he) he hpl
theorem e_sum (hm : X.mg "sum" = none) (ha : DE κ X e f) (hc : X.calm = true := by rfl) (hg : Gl X "sum" := by rfl) (he : starEach [e] X.env = (false, eval e X.env) :: starEach [] X.env := by rfl) (hpl : (backTo pos (starEach [] X.env)).any (·.1) = false := by rfl) : DE κ X (.Call (.Name "sum" p) [e] [] pos) (fCl gSum (aCons f aNil)) := de_sum hc rfl hg hm (da_one ha he) he hpl
theorem e_min (hm : X.mg "min" = none) (ha : DA κ X (e :: es) far) (hc : X.calm = true := by rfl) (hg : Gl X "min" := by rfl) (he : starEach (e :: es) X.env = (false, eval e X.env) :: starEach es X.env := by rfl) (hpl : (backTo pos (starEach es X.env)).any (·.1) = false := by rfl) : DE κ X (.Call (.Name "min" p) (e :: es) [] pos) (fCl gMin far) := de_min hc rfl hg hm ha he hpl
theorem e_max (hm : X.mg "max" = none) (ha : DA κ X (e :: es) far) (hc : X.calm = true := by rfl) (hg : Gl X "max" := by rfl) (he : starEach (e :: es) X.env = (false, eval e X.env) :: starEach es X.env := by rfl) (hpl : (backTo pos (starEach es X.env)).any (·.1) = false := by rfl) : DE κ X (.Call (.Name "max" p) (e :: es) [] pos) (fCl gMax far) := de_max hc rfl hg hm ha he hpl
theorem e_abs (hm : X.mg "abs" = none) (ha : DE κ X e f) (hg : Gl X "abs" := by rfl) (he : starEach [e] X.env = (false, eval e X.env) :: starEach [] X.env := by rfl) (hpl : (backTo pos (starEach [] X.env)).any (·.1) = false := by rfl) : DE κ X (.Call (.Name "abs" p) [e] [] pos) (fCl gAbs (aCons f aNil)) := de_abs rfl hg hm (da_one ha he) he hpl
theorem e_int (hm : X.mg "int" = none) (ha : DE κ X e f) (hg : Gl X "int" := by rfl) (he : starEach [e] X.env = (false, eval e X.env) :: starEach [] X.env := by rfl) (hpl : (backTo pos (starEach [] X.env)).any (·.1) = false := by rfl) : DE κ X (.Call (.Name "int" p) [e] [] pos) (fCl gInt (aCons f aNil)) := de_intc rfl hg hm (da_one ha he) he hpl
theorem e_tuple (hm : X.mg "tuple" = none) (ha : DE κ X e f) (hg : Gl X "tuple" := by rfl) (he : starEach [e] X.env = (false, eval e X.env) :: starEach [] X.env := by rfl) (hpl : (backTo pos (starEach [] X.env)).any (·.1) = false := by rfl) : DE κ X (.Call (.Name "tuple" p) [e] [] pos) (fCl gTuple (aCons f aNil)) := de_tuple rfl hg hm (da_one ha he) he hpl
theorem o_list (hm : X.mg "list" = none) (ha : DE κ X e f) (hc : X.calm = true := by rfl) (hg : Gl X "list" := by rfl) (he : starEach [e] X.env = (false, eval e X.env) :: starEach [] X.env := by rfl) (hpl : (backTo pos (starEach [] X.env)).any (·.1) = false := by rfl) : DO κ X (.Call (.Name "list" p) [e] [] pos) (oCl oList (aCons f aNil)) := do_list hc rfl hg hm (da_one ha he) he hpl
theorem o_sorted (hm : X.mg "sorted" = none) (ha : DE κ X e f) (hg : Gl X "sorted" := by rfl) (he : starEach [e] X.env = (false, eval e X.env) :: starEach [] X.env := by rfl) (hpl : (backTo pos (starEach [] X.env)).any (·.1) = false := by rfl) : DO κ X (.Call (.Name "sorted" p) [e] [] pos) (oCl oSorted (aCons f aNil)) := do_sorted rfl hg hm (da_one ha he) he hpl
end
/-- slices of any kind, as a value -/
def gSl (x : D) (lo hi : Option Int) (n3 : Nat) (Q : D → Nat → Prop) : Prop := match x with
  | .str s => Q (.str (cutL s lo hi)) n3
  | .tup xs => ¬ (HT.sIx xs.length 0 lo = 0 ∧ HT.sIx xs.length xs.length hi = xs.length) ∧ Q (.tup (cutL xs lo hi)) n3
  | .lst xs => Q (.lst (cutL xs lo hi)) n3
  | .scr ns => Q (.lst ((cutL ns lo hi).map D.int)) n3
  | _ => False
@[simp] def fSl (f : FE) (l h : FO) : FE := fun env n Q => f env n fun x n1 => l env n1 fun lo n2 => h env n2 fun hi n3 => gSl x lo hi n3 Q
theorem e_sl {lo hi : Option Expr} {fl fh : FO} (ha : DE κ X a fa) (hl : DP κ X lo fl) (hh : DP κ X hi fh) (hK : κ.K = X.K := by rfl) : DE κ X (.Subscript a (.Slice lo hi none p2) pos) (fSl fa fl fh) := by
  obtain ⟨ta, pa, qa⟩ := ha
  obtain ⟨tl, pl, ql⟩ := hl
  obtain ⟨th, ph, qh⟩ := hh
  refine ⟨_, pe_slice (SlR.or sl_str (SlR.or sl_tup sl_list)) pa pl ph, fun P G H σ env Q R g ev hf hR => ?_⟩
  refine qa P G H σ env _ _ g ev hf fun v P1 G1 H1 d gr1 g1 r1 hf1 => ql P1 G1 H1 σ env _ _ g1 (ev.grow gr1) hf1 fun l P2 G2 H2 gr2 g2 hf2 => qh P2 G2 H2 σ env _ _ g2 ((ev.grow gr1).grow gr2) hf2 fun h P3 G3 H3 gr3 g3 hf3 => ?_
  have gr := (gr1.trans gr2).trans gr3
  have r3 := gr3.rep (gr2.rep r1)
  unfold gSl at hf3
  split at hf3
  · cases r3 with
    | str hs => exact .inl ⟨_, rfl, by rw [str_len]; exact hs.1, by rw [cutS_eq]; exact hR _ P3 G3 H3 _ gr g3 (.str (hs.cut l h)) hf3⟩
  · cases r3 with
    | tup ht z r =>
      refine .inr (.inl ⟨_, _, rfl, SqT.of (g3.gx ht rfl), by rw [r.length]; exact hf3.1, fun p hp => ?_⟩)
      have hg := g3.gnone hp
      exact hR _ P3 (upd G3 p (.tup _)) _ _ (gr.trans ((Grow.new hp).frz hp hg)) ((g3.new hp).frz hg (g3.inone hp) upd_same) (.tup upd_same (Nat.le_trans (cutV_length _ _ _) z) (reps_frz hg (reps_cut r l h))) hf3.2
  · cases r3 with
    | lst ht z r =>
      refine .inr (.inr ⟨_, _, rfl, SqL.of (g3.gx ht rfl), fun p hp => ?_⟩)
      have hg := g3.gnone hp
      exact hR _ P3 (upd G3 p (.lst _)) _ _ (gr.trans ((Grow.new hp).frz hp hg)) ((g3.new hp).frz hg (g3.inone hp) upd_same) (.lst upd_same (Nat.le_trans (cutV_length _ _ _) z) (reps_frz hg (reps_cut r l h))) hf3
  · cases r3 with
    | scr ht z =>
      refine .inr (.inr ⟨_, _, rfl, by rw [← hK]; exact sql_at g3.gh ht, fun p hp => ?_⟩)
      have hg := g3.gnone hp
      rw [cut_map]
      exact hR _ P3 (upd G3 p (.lst _)) _ _ (gr.trans ((Grow.new hp).frz hp hg)) ((g3.new hp).frz hg (g3.inone hp) upd_same) (.lst upd_same (by rw [List.length_map]; exact Nat.le_trans (cutL_le _ _ _) z) Reps.ints) hf3
  · exact hf3.elim
theorem o_sl {lo hi : Option Expr} {fl fh : FO} (ha : DE κ X a fa) (hl : DP κ X lo fl) (hh : DP κ X hi fh) (hK : κ.K = X.K := by rfl) : DO κ X (.Subscript a (.Slice lo hi none p2) pos) (oSlice fa fl fh) := do_slice hK ha hl hh
theorem i_seq (ha : DE κ X e f) : DI κ X tg e (iSeq f) := (di_seq ha).j
theorem i_name (i : Nat) (hN : X.N[i]? = some x := by rfl) (hv : Vis X.env.scope x := by first | exact Or.inl rfl | exact Or.inr (Or.inl rfl) | exact Or.inr (Or.inr rfl)) (hd : (x == ("__debug__" : Str)) = false := by decide) (hcd : (x == ("__classdict__" : Str)) = false := by decide) : DI κ X tg (.Name x pos) (iSeqN i) := di_name hN hv hd hcd
theorem i_r1 (hm : X.mg "range" = none) (ha : DE κ X a fa) (hg : Gl X "range" := by rfl) (hs : starEach [a] X.env = [(false, eval a X.env)] := by rfl) : DI κ X tg (.Call (.Name "range" p) [a] [] pos) (iRange1 (aCons fa aNil)) := (di_range1 hg hm (da_one ha hs) hs).j
theorem i_r2 (hm : X.mg "range" = none) (ha : DE κ X a fa) (hb : DE κ X b fb) (hg : Gl X "range" := by rfl) (hs : starEach [a, b] X.env = [(false, eval a X.env), (false, eval b X.env)] := by rfl) (hs2 : starEach [b] X.env = [(false, eval b X.env)] := by rfl) (hs3 : starEach [a, b] X.env = (false, eval a X.env) :: starEach [b] X.env := by rfl) : DI κ X tg (.Call (.Name "range" p) [a, b] [] pos) (iRange2 (aCons fa (aCons fb aNil))) := (di_range2 hg hm (da_cons ha (da_one hb hs2) hs3) hs hs2).j
theorem i_enum {tpos : Pos} {elts : List Expr} {kk : Nat} (hm : X.mg "enumerate" = none) (ha : DE κ X a fa) (hg : Gl X "enumerate" := by rfl) (hs : starEach [a] X.env = [(false, eval a X.env)] := by rfl) : DI κ X (.Tuple elts kk tpos) (.Call (.Name "enumerate" p) [a] [] pos) (iEnumD (aCons fa aNil)) := (di_enum hg hm (da_one ha hs) hs).j
theorem i_zip {tpos : Pos} {elts : List Expr} {kk : Nat} (hm : X.mg "zip" = none) (ha : DE κ X a fa) (hb : DE κ X b fb) (hg : Gl X "zip" := by rfl) (hs : starEach [a, b] X.env = (false, eval a X.env) :: starEach [b] X.env := by rfl) (hs2 : starEach [b] X.env = [(false, eval b X.env)] := by rfl) (hpl : (backTo pos (starEach [b] X.env)).any (·.1) = false := by rfl) :
    DI κ X (.Tuple elts kk tpos) (.Call (.Name "zip" p) [a, b] [] pos) (iZipD (aCons fa (aCons fb aNil))) := (di_zip hg hm (da_cons ha (da_one hb hs2) hs) hs hpl).j
theorem o_comp {iter tg elt : Expr} {ifs : List Expr} {scope : Scope} (own : List (Str × Nat)) {sl : List Nat} {φ : FG} (hN : X.N.Nodup) (hi : DI κ X tg iter far) 
    (hg : ∀ (s : Shared) (H : Hp) (C : Addr) (cl : List (Str × Addr)) (fp : List Addr), DG κ (X.blk s H scope (compEnvC scope cl C X.env) fp) tg sl φ)
    (ht : ∀ (s : Shared) (H : Hp) (C : Addr) (cl : List (Str × Addr)) (fp : List Addr), DTs κ (X.blk s H scope (compEnvC scope cl C X.env) fp) ifs t1)
    (he : ∀ (s : Shared) (H : Hp) (C : Addr) (cl : List (Str × Addr)) (fp : List Addr), DE κ (X.blk s H scope (compEnvC scope cl C X.env) fp) elt f)
    (ok : blkC X.N X.env.scope scope own = true := by rfl) (hc : X.calm = true := by rfl) (hsl : ∀ i ∈ sl, i ∈ own.map (·.2) := by decide) (hs : ∀ x, foldedSetIterable iter X.env x = pure x := by intro _; rfl) : DO κ X (.ListComp elt [⟨tg, iter, ifs, 0⟩] scope pos) (oComp far φ t1 f (own.map (·.2))) := do_comp own hc hN hi ok hg ht he hsl hs
end
end DL

/-! ## DL15 -/
/-! DL15: short words for statements -/
namespace DL
open PySem PySem.Spec PyProof.Rows L2
theorem DO.rdfr {κ : Kit} {fo : FA} {t : TE} (q : RdO κ fo t) : RdE κ (fFrz fo) t := fun P G H σ env Q R g ev hf hR => q P G H σ env _ R g ev hf fun a P' G' H' vs xs gr g' ha hg hi hh hz r hq =>
  hR (.ref a) P' (upd G' a (.lst vs)) H' (.lst xs) (gr.frz ha hg) (g'.frz hg hi hh) (.lst upd_same hz (reps_frz hg r)) hq
section
variable {κ : Kit} {X : Cx} {e tg : Expr} {es : List Expr} {f : FE} {fo far : FA} {t1 : FT} {s1 s2 : FS} {pos p2 : Pos} {x : Str} {b1 b2 : List Stmt}
section
variable (i : Nat) (hN : X.N.Nodup)
include hN
theorem S_asg (h : DE κ X e f) (hi : X.N[i]? = some x := by rfl) (hx : Loc X.env.scope x := by first | exact Or.inl rfl | exact Or.inr rfl) (hs : swapsWith e (some (.Name x p2)) pos.line X.env = pure false := by rfl) (hfn : X.fn x = true ∨ X.env.scope.names.lookup x = some .local := by first | exact Or.inl rfl | exact Or.inr rfl) : D1 κ X (.Assign [.Name x p2] e pos) (sAsg i f) := d1_asg hN hi hx hs hfn h
theorem S_asgV (h : DE κ X e f) (hi : X.N[i]? = some x := by rfl) (hx : Loc X.env.scope x := by first | exact Or.inl rfl | exact Or.inr rfl) (hs : swapsWith e (some (.Name x p2)) pos.line X.env = pure false := by rfl) (hfn : X.fn x = true ∨ X.env.scope.names.lookup x = some .local := by first | exact Or.inl rfl | exact Or.inr rfl) : D1 κ X (.Assign [.Name x p2] e pos) (sAsgV i f) := d1_asgV hN hi hx hs hfn h
theorem S_asgO (h : DO κ X e fo) (hi : X.N[i]? = some x := by rfl) (hx : Loc X.env.scope x := by first | exact Or.inl rfl | exact Or.inr rfl) (hs : swapsWith e (some (.Name x p2)) pos.line X.env = pure false := by rfl) (hfn : X.fn x = true ∨ X.env.scope.names.lookup x = some .local := by first | exact Or.inl rfl | exact Or.inr rfl) : D1 κ X (.Assign [.Name x p2] e pos) (sAsgO i fo) := d1_asgO hN hi hx hs hfn h
theorem S_asgOV (h : DO κ X e fo) (hi : X.N[i]? = some x := by rfl) (hx : Loc X.env.scope x := by first | exact Or.inl rfl | exact Or.inr rfl) (hs : swapsWith e (some (.Name x p2)) pos.line X.env = pure false := by rfl) (hfn : X.fn x = true ∨ X.env.scope.names.lookup x = some .local := by first | exact Or.inl rfl | exact Or.inr rfl) : D1 κ X (.Assign [.Name x p2] e pos) (sAsgOV i fo) := d1_asgOV hN hi hx hs hfn h
theorem S_augA (h : DE κ X e f) (hi : X.N[i]? = some x := by rfl) (hx : Loc X.env.scope x := by first | exact Or.inl rfl | exact Or.inr rfl) (hfn : X.fn x = true ∨ X.env.scope.names.lookup x = some .local := by first | exact Or.inl rfl | exact Or.inr rfl) : D1 κ X (.AugAssign (.Name x p2) .Add e pos) (sAug gAdd i f) := d1_augAdd i hN hi hx h hfn
theorem S_augS (h : DE κ X e f) (hi : X.N[i]? = some x := by rfl) (hx : Loc X.env.scope x := by first | exact Or.inl rfl | exact Or.inr rfl) (hfn : X.fn x = true ∨ X.env.scope.names.lookup x = some .local := by first | exact Or.inl rfl | exact Or.inr rfl) : D1 κ X (.AugAssign (.Name x p2) .Sub e pos) (sAug gSub i f) := d1_augSub i hN hi hx h hfn
theorem N_n (hi : X.N[i]? = some x := by rfl) (hx : Loc X.env.scope x := by first | exact Or.inl rfl | exact Or.inr rfl) (hfn : X.fn x = true ∨ X.env.scope.names.lookup x = some .local := by first | exact Or.inl rfl | exact Or.inr rfl) : SD κ X (.Name x pos) (nN i) := sd_name i hN hi hx hfn
theorem G_n (hi : X.N[i]? = some x := by rfl) (hx : Loc X.env.scope x := by first | exact Or.inl rfl | exact Or.inr rfl) (hfn : X.fn x = true ∨ X.env.scope.names.lookup x = some .local := by first | exact Or.inl rfl | exact Or.inr rfl) : DG κ X (.Name x pos) [i] (gN i) := dg_name i hN hi hx hfn
theorem X_n {is : List Nat} (r : Names X es is) (hi : X.N[i]? = some x := by rfl) (hx : Loc X.env.scope x := by first | exact Or.inl rfl | exact Or.inr rfl) (hfn : X.fn x = true ∨ X.env.scope.names.lookup x = some .local := by first | exact Or.inl rfl | exact Or.inr rfl)
    (hs : (assignEach (.Name x pos :: es) X.env).map (·.2) = assign (.Name x pos) X.env :: (assignEach es X.env).map (·.2) := by rfl) : Names X (.Name x pos :: es) (i :: is) := names_cons i hN hi hx r hfn hs
end
theorem S_app (i : Nat) {apos cpos : Pos} (h : DE κ X e f) (hN : X.N[i]? = some x := by rfl) (hv : Vis X.env.scope x := by first | exact Or.inl rfl | exact Or.inr (Or.inl rfl) | exact Or.inr (Or.inr rfl)) : 
    (hd : (x == ("__debug__" : Str)) = false := by decide) → (hcd : (x == ("__classdict__" : Str)) = false := by decide) → (hbase : attributeBase (.Name x p2) "append" X.env (eval (.Name x p2) X.env) = eval (.Name x p2) X.env := by rfl) →
    (hfew : ((backTo cpos (starEach [e] X.env)).all (fun x => !x.1) && (backToKw cpos (keywordEach [] X.env)).all (fun x => x.1.isSome) && decide ([e].length + ([] : List Keyword).length + (if ([] : List Keyword).isEmpty then 0 else 1) < 30)) = true := by rfl) →
    (hline : (apos.endLine == cpos.line) = true := by rfl) → (hs : starEach [e] X.env = (false, eval e X.env) :: starEach [] X.env := by rfl) → (hplain : (backTo cpos (starEach [] X.env)).any (·.1) = false := by rfl) →
    (hsw : swapsWith (.Call (.Attribute (.Name x p2) "append" apos) [e] [] cpos) none pos.line X.env = pure false := by rfl) →
    D1 κ X (.Expr (.Call (.Attribute (.Name x p2) "append" apos) [e] [] cpos) pos) (sApp i f) := fun hd hcd hbase hfew hline hs hplain hsw => d1_app i hN hv h hd hcd hbase hfew hline hs hplain hsw
theorem S_appV (i : Nat) {apos cpos : Pos} (h : DE κ X e f) (hN : X.N[i]? = some x := by rfl) (hv : Vis X.env.scope x := by first | exact Or.inl rfl | exact Or.inr (Or.inl rfl) | exact Or.inr (Or.inr rfl)) : 
    (hd : (x == ("__debug__" : Str)) = false := by decide) → (hcd : (x == ("__classdict__" : Str)) = false := by decide) → (hbase : attributeBase (.Name x p2) "append" X.env (eval (.Name x p2) X.env) = eval (.Name x p2) X.env := by rfl) →
    (hfew : ((backTo cpos (starEach [e] X.env)).all (fun x => !x.1) && (backToKw cpos (keywordEach [] X.env)).all (fun x => x.1.isSome) && decide ([e].length + ([] : List Keyword).length + (if ([] : List Keyword).isEmpty then 0 else 1) < 30)) = true := by rfl) →
    (hline : (apos.endLine == cpos.line) = true := by rfl) → (hs : starEach [e] X.env = (false, eval e X.env) :: starEach [] X.env := by rfl) → (hplain : (backTo cpos (starEach [] X.env)).any (·.1) = false := by rfl) →
    (hsw : swapsWith (.Call (.Attribute (.Name x p2) "append" apos) [e] [] cpos) none pos.line X.env = pure false := by rfl) →
    D1 κ X (.Expr (.Call (.Attribute (.Name x p2) "append" apos) [e] [] cpos) pos) (sAppV i f) := fun hd hcd hbase hfew hline hs hplain hsw => d1_appV i hN hv h hd hcd hbase hfew hline hs hplain hsw
theorem S_retS (i : Nat) (hN : X.N[i]? = some x := by rfl) (hv : Vis X.env.scope x := by first | exact Or.inl rfl | exact Or.inr (Or.inl rfl) | exact Or.inr (Or.inr rfl)) (hd : (x == ("__debug__" : Str)) = false := by decide) (hcd : (x == ("__classdict__" : Str)) = false := by decide) : D1 κ X (.Return (some (.Name x p2)) pos) (sRetS i) := d1_retS hN hv hd hcd
theorem S_for {iter : Expr} {body : List Stmt} {φ : SG} (hi : DI κ X tg iter far) (hg : SD κ X tg φ) (hb : DS κ X body s1) (hp : PassesOwn (model X.prog X.w) X.A X.env X.xe := by exact PassesOwn.never) (hc : X.calm = true := by rfl) (hs : ∀ x, foldedSetIterable iter X.env x = pure x := by intro _; rfl) : D1 κ X (.For tg iter body [] pos) (sFor far φ s1) := d1_for hp hc hi hg hb hs
theorem S_while {body : List Stmt} (hc : DT κ X e t1) (hb : DS κ X body s1) (hp : PassesOwn (model X.prog X.w) X.A X.env X.xe := by exact PassesOwn.never) : D1 κ X (.While e body [] pos) (sWhile t1 s1) := d1_while hp hc hb
theorem S_set (i : Nat) {p3 : Pos} {k : Expr} {fa fb : FE} (hva : DE κ X e fa) (hk : DE κ X k fb) (hN : X.N[i]? = some x := by rfl) (hv : Vis X.env.scope x := by first | exact Or.inl rfl | exact Or.inr (Or.inl rfl) | exact Or.inr (Or.inr rfl)) : 
    (hs : swapsWithSole [.Subscript (.Name x p2) k p3] e pos.line X.env = pure false := by rfl) → (hw : swappedStores [.Subscript (.Name x p2) k p3] e X.env = pure none := by rfl) →
    (h1 : (assignEach [.Subscript (.Name x p2) k p3] X.env).map (·.2) = [assign (.Subscript (.Name x p2) k p3) X.env] := by rfl) → (hix : PlainIx k := by exact fun _ _ => rfl) → (hd : (x == ("__debug__" : Str)) = false := by decide) → (hcd : (x == ("__classdict__" : Str)) = false := by decide) →
    (hg : ∀ {to ti : TE} {t : TSet}, PE X (.Name x p2) to → PE X k ti → PSet X t → PG X (.Subscript (.Name x p2) k p3) (L2.gSub to ti t) := by intro to ti t h1 h2 h3; exact pg_sub h1 h2 h3) →
    D1 κ X (.Assign [.Subscript (.Name x p2) k p3] e pos) (sSet i fa fb) := fun hs hw h1 hix hd hcd hg => d1_set i hN hv hva hk hs hw h1 hix hd hcd hg
section
variable {i : Nat} {y : Str} {py : Pos} {elt tg iter : Expr} {ifs : List Expr} {scope : Scope} {spos : Pos} {sl : List Nat} {φ : FG}
theorem S_lc (i : Nat) (own : List (Str × Nat)) (hN : X.N.Nodup) (hi : DI κ X tg iter far)
    (hg : ∀ (s : Shared) (H : Hp) (C : Addr) (cl : List (Str × Addr)) (fp : List Addr), DG κ (X.blk s H scope (compEnvC scope cl C X.env) fp) tg sl φ)
    (ht : ∀ (s : Shared) (H : Hp) (C : Addr) (cl : List (Str × Addr)) (fp : List Addr), DTs κ (X.blk s H scope (compEnvC scope cl C X.env) fp) ifs t1)
    (he : ∀ (s : Shared) (H : Hp) (C : Addr) (cl : List (Str × Addr)) (fp : List Addr), DE κ (X.blk s H scope (compEnvC scope cl C X.env) fp) elt f)
    (hy : X.N[i]? = some y := by rfl) (hyl : X.env.scope.names.lookup y = some .local := by rfl) (hc : X.calm = true := by rfl)
    (hsw : swapsWith (.ListComp elt [⟨tg, iter, ifs, 0⟩] scope pos) (some (.Name y py)) spos.line X.env = pure true := by exact sw_true rfl rfl rfl (by decide +kernel)) (ok : blkC X.N X.env.scope scope own = true := by rfl)
    (hsl : ∀ i ∈ sl, i ∈ own.map (·.2) := by decide) (hs : ∀ x, foldedSetIterable iter X.env x = pure x := by intro _; rfl) :
    D1 κ X (.Assign [.Name y py] (.ListComp elt [⟨tg, iter, ifs, 0⟩] scope pos) spos) (sAsgO i (oComp far φ t1 f (own.map (·.2)))) := d1_lc own hc hN hy hyl hsw hi ok hg ht he hsl hs
theorem S_lcV (i : Nat) (own : List (Str × Nat)) (hN : X.N.Nodup) (hi : DI κ X tg iter far)
    (hg : ∀ (s : Shared) (H : Hp) (C : Addr) (cl : List (Str × Addr)) (fp : List Addr), DG κ (X.blk s H scope (compEnvC scope cl C X.env) fp) tg sl φ)
    (ht : ∀ (s : Shared) (H : Hp) (C : Addr) (cl : List (Str × Addr)) (fp : List Addr), DTs κ (X.blk s H scope (compEnvC scope cl C X.env) fp) ifs t1)
    (he : ∀ (s : Shared) (H : Hp) (C : Addr) (cl : List (Str × Addr)) (fp : List Addr), DE κ (X.blk s H scope (compEnvC scope cl C X.env) fp) elt f)
    (hy : X.N[i]? = some y := by rfl) (hyl : X.env.scope.names.lookup y = some .local := by rfl) (hc : X.calm = true := by rfl)
    (hsw : swapsWith (.ListComp elt [⟨tg, iter, ifs, 0⟩] scope pos) (some (.Name y py)) spos.line X.env = pure true := by exact sw_true rfl rfl rfl (by decide +kernel)) (ok : blkC X.N X.env.scope scope own = true := by rfl)
    (hsl : ∀ i ∈ sl, i ∈ own.map (·.2) := by decide) (hs : ∀ x, foldedSetIterable iter X.env x = pure x := by intro _; rfl) :
    D1 κ X (.Assign [.Name y py] (.ListComp elt [⟨tg, iter, ifs, 0⟩] scope pos) spos) (sAsgOV i (oComp far φ t1 f (own.map (·.2)))) := d1_lcV own hc hN hy hyl hsw hi ok hg ht he hsl hs
/-- the new list a value at once -/
theorem S_lcF (i : Nat) (own : List (Str × Nat)) (hN : X.N.Nodup) (hi : DI κ X tg iter far)
    (hg : ∀ (s : Shared) (H : Hp) (C : Addr) (cl : List (Str × Addr)) (fp : List Addr), DG κ (X.blk s H scope (compEnvC scope cl C X.env) fp) tg sl φ)
    (ht : ∀ (s : Shared) (H : Hp) (C : Addr) (cl : List (Str × Addr)) (fp : List Addr), DTs κ (X.blk s H scope (compEnvC scope cl C X.env) fp) ifs t1)
    (he : ∀ (s : Shared) (H : Hp) (C : Addr) (cl : List (Str × Addr)) (fp : List Addr), DE κ (X.blk s H scope (compEnvC scope cl C X.env) fp) elt f)
    (hy : X.N[i]? = some y := by rfl) (hyl : X.env.scope.names.lookup y = some .local := by rfl) (hc : X.calm = true := by rfl)
    (hsw : swapsWith (.ListComp elt [⟨tg, iter, ifs, 0⟩] scope pos) (some (.Name y py)) spos.line X.env = pure true := by exact sw_true rfl rfl rfl (by decide +kernel)) (ok : blkC X.N X.env.scope scope own = true := by rfl)
    (hsl : ∀ i ∈ sl, i ∈ own.map (·.2) := by decide) (hs : ∀ x, foldedSetIterable iter X.env x = pure x := by intro _; rfl) :
    D1 κ X (.Assign [.Name y py] (.ListComp elt [⟨tg, iter, ifs, 0⟩] scope pos) spos) (sAsg i (fFrz (oComp far φ t1 f (own.map (·.2))))) := by
  obtain ⟨w, pw, qw⟩ := hi
  exact ⟨_, PS.lk (ps_setLc hc hN hy hyl hsw pw (blkOk_by ok) (fun s H C cl fp => (hg s H C cl fp).can) (fun s H C cl fp => (ht s H C cl fp).can) (fun s H C cl fp => (he s H C cl fp).can) hs), asg_lift (DO.rdfr (lc_lift qw rd_tG rd_tT rd_tE hsl))⟩
end
theorem S_par (i j : Nat) {a b : Expr} {fxs : FXs} {x y : Str} {px py pt : Pos} {kt k2 pt2} (hN : X.N.Nodup) (h : DXs κ X [a, b] fxs) (hi : X.N[i]? = some x := by rfl) (hj : X.N[j]? = some y := by rfl) (hij : i ≠ j := by decide) (hxl : X.env.scope.names.lookup x = some .local := by rfl) (hyl : X.env.scope.names.lookup y = some .local := by rfl) (hc : X.calm = true := by rfl)
    (hw : swappedStores [.Tuple [.Name x px, .Name y py] kt pt] (.Tuple [a, b] k2 pt2) X.env = pure (some [x, y]) := by rfl) (hs : swapsWithSole [.Tuple [.Name x px, .Name y py] kt pt] (.Tuple [a, b] k2 pt2) pos.line X.env = pure false := by rfl) : D1 κ X (.Assign [.Tuple [.Name x px, .Name y py] kt pt] (.Tuple [a, b] k2 pt2) pos) (sPar [i, j] fxs) :=
  d1_par i j hc hN hi hj hij hxl hyl h fun {ta} p => ps_par hc hN hi hj hij hxl hyl p hw hs
theorem S_tup {tgs : List Expr} {is : List Nat} {fxs : FXs} {k1 k2 : _} {pt : Pos} (h : DXs κ X es fxs) (r : Names X tgs is) (hc : X.calm = true := by rfl) (hz : is.length ≤ 1000 := by decide) (hn : (assignEach tgs X.env).length = is.length := by rfl) (hst : (assignEach tgs X.env).findIdx? (·.1) = none := by rfl)
    (hs : swapsWithSole [.Tuple tgs k1 pt] (.Tuple es k2 p2) pos.line X.env = pure false := by rfl) (hw : swappedStores [.Tuple tgs k1 pt] (.Tuple es k2 p2) X.env = pure none := by rfl) (h1 : (assignEach [.Tuple tgs k1 pt] X.env).map (·.2) = [assign (.Tuple tgs k1 pt) X.env] := by rfl) :
    D1 κ X (.Assign [.Tuple tgs k1 pt] (.Tuple es k2 p2) pos) (sPar is fxs) := d1_tupAsg hc hz h r hn hst hs hw h1
theorem N_t {k n : Nat} {ψ : SGs} (h : SDs κ X es ψ) (hc : X.calm = true := by rfl) (hn : (assignEach es X.env).length = n := by rfl) (hst : (assignEach es X.env).findIdx? (·.1) = none := by rfl) : SD κ X (.Tuple es k pos) (nT n ψ) := sd_tup hc h hn hst
theorem G_t {k n : Nat} {sl : List Nat} {ψ : FGs} (h : DGs κ X es sl ψ) (hc : X.calm = true := by rfl) (hn : (assignEach es X.env).length = n := by rfl) (hst : (assignEach es X.env).findIdx? (·.1) = none := by rfl) : DG κ X (.Tuple es k pos) sl (gT n ψ) := dg_tup hc h hn hst
end
end DL

/-! ## DL16 -/
/-! DL16: the dice of a law, an object under an invariant -/
namespace DL
open PySem PySem.Spec PyProof.Rows L2
/-- what may stand at a place of the dice, n draws told -/
def DiceAt : Nat → Int → Nat → Prop
  | 0, d, _ => 0 ≤ d
  | 1, d, _ => 0 ≤ d ∧ d < 2147483629
  | 2, d, n => 0 ≤ d ∧ d ≤ n
  | 3, d, _ => 0 ≤ d ∧ d ≤ 63
  | _, _, _ => False
def DiceJ (P : Wd) (o : HO) : Prop := ∃ d0 d1 d2 d3 : Int, o = .lst [.int d0, .int d1, .int d2, .int d3] ∧ DiceAt 0 d0 P.n ∧ DiceAt 1 d1 P.n ∧ DiceAt 2 d2 P.n ∧ DiceAt 3 d3 P.n
theorem DiceAt.mono {i : Nat} {d : Int} {n m : Nat} (h : DiceAt i d n) (hn : n ≤ m) : DiceAt i d m := by
  match i, h with
  | 0, h => exact h
  | 1, h => exact h
  | 2, h => exact ⟨h.1, Int.le_trans h.2 (by omega)⟩
  | 3, h => exact h
theorem DiceJ.mono {P P' : Wd} {o : HO} (hn : P.n ≤ P'.n) (h : DiceJ P o) : DiceJ P' o := by
  obtain ⟨d0, d1, d2, d3, e, h0, h1, h2, h3⟩ := h
  exact ⟨d0, d1, d2, d3, e, h0.mono hn, h1.mono hn, h2.mono hn, h3.mono hn⟩
/-- a kit whose objects of kind 0 are dice -/
def HasDice (κ : Kit) : Prop := ∀ P o, κ.J 0 [] P o ↔ DiceJ P o
abbrev dice : D := .box 0 []
section
variable {κ : Kit} {X : Cx} {e : Expr} {f fa fb : FE} {pos p2 p3 : Pos} {x : Str} {k : Nat}
/-- dice[j] -/
@[simp] def fIxB (i j : Nat) : FE := fun env n Q => env[i]? = some (some dice) ∧ j < 4 ∧ ∀ d : Int, DiceAt j d n → Q (.int d) n
theorem e_ixB (i j : Nat) (hK : HasDice κ) {q : Expr} (hq : ∃ jj pp, q = .Constant (.int (j : Int)) jj pp) (hN : X.N[i]? = some x := by rfl) (hv : Vis X.env.scope x := by first | exact Or.inl rfl | exact Or.inr (Or.inl rfl) | exact Or.inr (Or.inr rfl))
    (hd : (x == ("__debug__" : Str)) = false := by decide) (hcd : (x == ("__classdict__" : Str)) = false := by decide) (hs : PlainIx q := by exact fun _ _ => rfl) : DE κ X (.Subscript (.Name x p2) q pos) (fIxB i j) := by
  obtain ⟨jj, pp, rfl⟩ := hq
  refine ⟨_, pe_ix ix_list (pe_var hN hv hd hcd) pe_int hs, fun P G H σ env Q R g ev hf hR => ?_⟩
  obtain ⟨h1, h2, hf⟩ := hf
  obtain ⟨u, q1, q2⟩ := ev.get i _ h1
  cases q2 with
  | box hb =>
    obtain ⟨hg, o, ho, hj⟩ := g.gi _ _ hb
    rw [hK] at hj
    obtain ⟨d0, d1, d2, d3, rfl, a0, a1, a2, a3⟩ := hj
    refine ⟨_, q1, ?_⟩
    have fin : ∀ d : Int, atI [V.int d0, V.int d1, V.int d2, V.int d3] (j : Int) = some (V.int d) → DiceAt j d P.n → rIxL X.K (V.ref _) (V.int (j : Int)) H R := fun d hd ha => ⟨_, _, _, _, rfl, rfl, SqL.of ho, hd, hR _ P G H _ .refl g .int (hf d ha)⟩
    match j, h2 with
    | 0, _ => exact fin d0 rfl a0
    | 1, _ => exact fin d1 rfl a1
    | 2, _ => exact fin d2 rfl a2
    | 3, _ => exact fin d3 rfl a3
/-- dice[j] = e: one more told -/
@[simp] def sSetB (i j : Nat) (f : FE) : FS := fun D env n => f (hide env) n fun d m => env[i]? = some (some (.val dice)) ∧ j < 4 ∧ ∃ z, d = .int z ∧ DiceAt j z (m + 1) ∧ D.nx env (m + 1)
theorem upd_grow {P : Wd} {G H : Hp} {a : Addr} {t : Nat × List D} {o : HO} (hi : P.iv a = some t) (m : Nat) (hm : P.n ≤ m) : Grow P G H { P with n := m } G (upd H a o) where
  fz := fun _ _ h => h
  iv := fun _ _ h => h
  n := hm
  g := fun _ _ h => h
  h := fun b u e n => by
    have : b ≠ a := fun z => by subst z; rw [hi] at n; cases n
    rw [upd_ne this]; exact e
  dom := fun b u e => by
    by_cases hb : b = a
    · subst hb; exact ⟨o, upd_same⟩
    · exact ⟨u, by rw [upd_ne hb]; exact e⟩
  fresh := fun _ _ _ => ⟨rfl, rfl, rfl⟩
theorem upd_good {P : Wd} {G H : Hp} {a : Addr} {t : Nat × List D} {o : HO} (g : Good κ P G H) (hi : P.iv a = some t) (m : Nat) (hm : P.n ≤ m) (ho : κ.J t.1 t.2 { P with n := m } o) : Good κ { P with n := m } G (upd H a o) where
  pg := g.pg
  gh := fun b u e => by
    have : b ≠ a := fun z => by subst z; rw [(g.gi _ _ hi).1] at e; cases e
    exact (g.gh b u e).of (upd_ne this)
  gi := fun b s e => by
    by_cases hb : b = a
    · subst hb
      have e' : P.iv b = some s := e
      rw [hi] at e'; cases e'
      exact ⟨(g.gi _ _ hi).1, o, upd_same, ho⟩
    · obtain ⟨q1, u, q2, q3⟩ := g.gi b s e
      exact ⟨q1, u, by rw [upd_ne hb]; exact q2, κ.mono _ _ P _ u (fun _ _ h => h) (fun _ _ h => h) hm q3⟩
theorem S_setB (i j : Nat) (hK : HasDice κ) (hva : DE κ X e f) {q : Expr} (hq : ∃ jj pp, q = .Constant (.int (j : Int)) jj pp) (hN : X.N[i]? = some x := by rfl) (hv : Vis X.env.scope x := by first | exact Or.inl rfl | exact Or.inr (Or.inl rfl) | exact Or.inr (Or.inr rfl))
    (hs : swapsWithSole [.Subscript (.Name x p2) q p3] e pos.line X.env = pure false := by rfl) (hw : swappedStores [.Subscript (.Name x p2) q p3] e X.env = pure none := by rfl)
    (h1 : (assignEach [.Subscript (.Name x p2) q p3] X.env).map (·.2) = [assign (.Subscript (.Name x p2) q p3) X.env] := by rfl) (hd : (x == ("__debug__" : Str)) = false := by decide) (hcd : (x == ("__classdict__" : Str)) = false := by decide)
    (hg : ∀ {to ti : TE} {t : TSet}, PE X (.Name x p2) to → PE X q ti → PSet X t → PG X (.Subscript (.Name x p2) q p3) (L2.gSub to ti t) := by intro to ti t h1 h2 h3; exact pg_sub h1 h2 h3) :
    D1 κ X (.Assign [.Subscript (.Name x p2) q p3] e pos) (sSetB i j f) := by
  obtain ⟨t, p, qv⟩ := hva
  obtain ⟨jj, pp, rfl⟩ := hq
  refine ⟨_, ps_asg p (hg (pe_var hN hv hd hcd) pe_int set_list) hs hw h1, fun P0 G0 H0 P G H σ env D E gr g ev hf ok => ?_⟩
  refine at_hide qv g ev hf fun v P1 G1 H1 d gr1 g1 ev1 rv hq => ?_
  obtain ⟨h1, h2, z, ez, hz, hq⟩ := hq
  subst ez
  cases rv
  obtain ⟨u, q1, q2⟩ := ev1.get i _ h1
  cases q2 with
  | @box a _ _ hb =>
    obtain ⟨hg, o, ho, hj⟩ := g1.gi _ _ hb
    rw [hK] at hj
    obtain ⟨d0, d1, d2, d3, rfl, a0, a1, a2, a3⟩ := hj
    have hn : P1.n ≤ P1.n + 1 := Nat.le_succ _
    have fin : ∀ vs : List V, (κ.J 0 [] { P1 with n := P1.n + 1 } (.lst vs)) → E.nx σ (upd H1 a (.lst vs)) := fun vs hJ => by
      have gw := upd_grow (G := G1) (H := H1) (o := .lst vs) hb (P1.n + 1) hn
      exact ok.nx _ G1 _ σ env ((gr.trans gr1).trans gw) (upd_good g1 hb _ hn hJ) (ev1.grow gw) hq
    refine ⟨_, q1, a, _, (j : Int), j, rfl, rfl, ho, ?_, fin _ ?_⟩
    · match j, h2 with
      | 0, _ => rfl
      | 1, _ => rfl
      | 2, _ => rfl
      | 3, _ => rfl
    · rw [hK]
      match j, h2, hz with
      | 0, _, hz => exact ⟨z, d1, d2, d3, rfl, hz, a1.mono hn, a2.mono hn, a3.mono hn⟩
      | 1, _, hz => exact ⟨d0, z, d2, d3, rfl, a0.mono hn, hz, a2.mono hn, a3.mono hn⟩
      | 2, _, hz => exact ⟨d0, d1, z, d3, rfl, a0.mono hn, a1.mono hn, hz, a3.mono hn⟩
      | 3, _, hz => exact ⟨d0, d1, d2, z, rfl, a0.mono hn, a1.mono hn, a2.mono hn, hz⟩
end
/-- an own list of four numbers becomes dice -/
theorem dice_of {κ : Kit} (hK : HasDice κ) {P : Program} {w : World} {K : PySem.W.Frag} {mg : Str → Option Value} {base : Heap} {k j : Nat} {f : Addr} {fd : FuncData} {ps : List Str} {F F' : FC} (Fn : FnOk P w K mg base CX0 k f fd ps (spD κ j F))
    (h : ∀ ds n Q, F' ds n Q → F ds n fun s m => ∃ d0 d1 d2 d3 : Int, s = .own [.int d0, .int d1, .int d2, .int d3] ∧ DiceAt 0 d0 m ∧ DiceAt 1 d1 m ∧ DiceAt 2 d2 m ∧ DiceAt 3 d3 m ∧ Q (.val dice) m) : FnOk P w K mg base CX0 k f fd ps (spD κ j F') := by
  refine Fn.imp fun vs H Q E hs => ?_
  obtain ⟨hl, Pw, G, ds, QD, g, r, hf, hQ⟩ := hs
  refine ⟨hl, Pw, G, ds, _, g, r, h ds Pw.n QD hf, fun v s P' G' H' gr g' rs hq => ?_⟩
  obtain ⟨d0, d1, d2, d3, e, a0, a1, a2, a3, hq⟩ := hq
  subst e
  obtain ⟨a, ea, vs, h1, h2, h3, h4, h5, h6⟩ := rs
  subst ea
  have ev : vs = [V.int d0, V.int d1, V.int d2, V.int d3] := by
    have := Reps.of_ints (ns := [d0, d1, d2, d3]) h6
    simpa using this
  subst ev
  have iv' : ∀ b t, P'.iv b = some t → (fun c => if c = a then some (0, []) else P'.iv c) b = some t := fun b t e => by
    have : b ≠ a := fun z => by subst z; rw [h5] at e; cases e
    simp only [if_neg this]; exact e
  refine hQ (.ref a) (.val dice) { P' with iv := fun c => if c = a then some (0, []) else P'.iv c } G' H' ⟨gr.fz, fun b t e => iv' b t (gr.iv b t e), gr.n, gr.g, gr.h, gr.dom, fun b o e => ?_⟩ ⟨g'.pg, g'.gh, fun b t e => ?_⟩ (.box (by simp)) hq
  · obtain ⟨f1, f2, f3⟩ := gr.fresh b o e
    have : b ≠ a := fun z => by subst z; rw [h3] at e; cases e
    exact ⟨by simp only [if_neg this]; exact f1, f2, f3⟩
  · by_cases hb : b = a
    · subst hb
      simp only [if_true, Option.some.injEq] at e
      subst e
      exact ⟨h4, _, h1, (hK _ _).mpr ⟨d0, d1, d2, d3, rfl, a0, a1, a2, a3⟩⟩
    · simp only [if_neg hb] at e
      obtain ⟨q1, u, q2, q3⟩ := g'.gi b t e
      exact ⟨q1, u, q2, κ.mono _ _ P' _ u (fun _ _ h => h) iv' (Nat.le_refl _) q3⟩
end DL

/-! ## DL17 -/
/-! DL17: calls with keywords -/
namespace DL
open PySem PySem.Spec PyProof.Rows L2
/-- what stands at these places -/
def pick {α : Type} (xs : List α) (ix : List Nat) : List α := ix.filterMap fun i => xs[i]?
@[simp] theorem pick_nil {α : Type} (xs : List α) : pick xs [] = [] := rfl
@[simp] theorem pick_cons {α : Type} (xs : List α) (i : Nat) (ix : List Nat) : pick xs (i :: ix) = match xs[i]? with | some x => x :: pick xs ix | none => pick xs ix := by
  unfold pick
  cases e : xs[i]? with
  | none => rw [List.filterMap_cons_none e]
  | some x => rw [List.filterMap_cons_some e]

theorem vals_pick {vs : List V} {us : List Value} (r : Vals vs us) : ∀ ix : List Nat, Vals (pick vs ix) (pick us ix)
  | [] => .nil
  | i :: ix => by
    have ih := vals_pick r ix
    rw [pick_cons, pick_cons]
    cases e : vs[i]? with
    | none =>
      have : us[i]? = none := by rw [List.getElem?_eq_none_iff] at e ⊢; rw [← r.length]; exact e
      rw [this]; exact ih
    | some v =>
      obtain ⟨u, e2, h⟩ := r.get e
      rw [e2]; exact .cons h ih
theorem reps_pick {κ : Kit} {G : Hp} {iv : IV} {vs : List V} {ds : List D} (r : Reps κ G iv vs ds) : ∀ ix : List Nat, Reps κ G iv (pick vs ix) (pick ds ix)
  | [] => .nil
  | i :: ix => by
    have ih := reps_pick r ix
    rw [pick_cons, pick_cons]
    cases e : ds[i]? with
    | none =>
      have : vs[i]? = none := by rw [List.getElem?_eq_none_iff] at e ⊢; rw [r.length]; exact e
      rw [this]; exact ih
    | some v =>
      obtain ⟨u, e2, h⟩ := r.get e
      rw [e2]; exact .cons h ih
theorem kb_fun {K : PySem.W.Frag} {x qual : Str} {st : Stmt} {f : Addr} {fd : FuncData} {ps : List Str} (F : L2.Fun K x qual st f fd) (n : Nat) (ks : List Str) (ix : List Nat)
    (h : ∀ (kV doc pm : Value) (an : Option Addr) (cdv ct : Value) (us ws : List Value), us.length = n → ws.length = ks.length → bindArgs (PySem.W.fnOf x qual (defArgs st) (defBody st) (defScope st) .none kV doc pm an cdv ct) ⟨us, ks.zip ws⟩ = pure (ps.zip (pick (us ++ ws ++ []) ix))) :
    ∃ its : List Value, KBn K fd ps n ks (fun us ws => pick (us ++ ws ++ its) ix) (fun vs zs => pick (vs ++ zs ++ []) ix) := by
  obtain ⟨oc, od, kV, doc, pm, an, cdv, ct, osl, rfl, lk, hcd⟩ := F.ex
  exact ⟨[], ⟨fun s us ws X l1 l2 => .of_eq (h kV doc pm an cdv ct us ws l1 l2), fun r1 r2 => vals_pick ((r1.append r2).append .nil) ix⟩⟩
theorem kb_funD {K : PySem.W.Frag} {x qual : Str} {params : Arguments} {body : List Stmt} {scope : Scope} {dvs : List V} {kws : List (Str × V)} {f : Addr} {fd : FuncData} {ps : List Str} (F : FunD K x qual params body scope dvs kws f fd) (n : Nat) (ks : List Str) (ix : List Nat) (hd : dvs ≠ [])
    (h : ∀ (T : Addr) (kV doc pm : Value) (an : Option Addr) (cdv ct : Value) (us its ws : List Value), us.length = n → its.length = dvs.length → ws.length = ks.length →
      ∃ k, bindArgs (PySem.W.fnOf x qual params body scope (.ref T) kV doc pm an cdv ct) ⟨us, ks.zip ws⟩ = seqItems? (.ref T) >>= k ∧ k (some its.toArray) = pure (ps.zip (pick (us ++ ws ++ its) ix))) :
    ∃ its : List Value, KBn K fd ps n ks (fun us ws => pick (us ++ ws ++ its) ix) (fun vs zs => pick (vs ++ zs ++ dvs) ix) :=
  F.kbindsD n ks (fun us its ws => pick (us ++ ws ++ its) ix) hd (fun r1 r2 r3 => vals_pick ((r1.append r3).append r2) ix) h
/-- a def of the module that keeps its promise, called with n positional values and these keywords -/
def CalN (κ : Kit) (P : Program) (w : World) (K : PySem.W.Frag) (mg : Str → Option Value) (base : Heap) (x : Str) (k j : Nat) (F : FC) (n : Nat) (ks : List Str) (ix : List Nat) (dds : List D) : Prop :=
  ∃ (f : Addr) (fd : FuncData) (ps : List Str) (dvs : List V) (its : List Value), FnOk P w K mg base CX0 k f fd ps (spD κ j F) ∧ mg x = some (.ref f) ∧ PySem.W.keepIn K (.ref f) = true ∧ KBn K fd ps n ks (fun us ws => pick (us ++ ws ++ its) ix) (fun vs zs => pick (vs ++ zs ++ dvs) ix) ∧ ∀ (G : Hp) (iv : IV), Reps κ G iv dvs dds
theorem CalN.mono {κ : Kit} {P : Program} {w : World} {K : PySem.W.Frag} {mg : Str → Option Value} {base : Heap} {x : Str} {k k' j : Nat} {F : FC} {n : Nat} {ks : List Str} {ix : List Nat} {dds : List D} (c : CalN κ P w K mg base x k j F n ks ix dds) (h : k ≤ k') : CalN κ P w K mg base x k' j F n ks ix dds := by
  obtain ⟨f, fd, ps, dvs, ds, Fn, r⟩ := c
  exact ⟨f, fd, ps, dvs, ds, Fn.mono h, r⟩
section
variable {κ : Kit} {X : Cx} {x : Str} {k k' j n : Nat} {F : FC} {ks : List Str} {ix : List Nat} {dds : List D} {e : Expr} {es : List Expr} {kws : List Keyword} {f : FE} {far fark : FA} {p pos kpos : Pos} {nm : Option Str}
def DK (κ : Kit) (X : Cx) (kws : List Keyword) (f : FA) : Prop := ∃ t, PK X kws t ∧ RdA κ f t
theorem dk_nil : DK κ X [] aNil := ⟨_, pk_nil, fun P G H σ env Q R g ev h hR => hR [] P G H [] .refl g .nil h⟩
theorem dk_cons (ha : DE κ X e f) (hr : DK κ X kws far) : DK κ X (⟨nm, e, kpos⟩ :: kws) (aCons f far) := by
  obtain ⟨ta, pa, qa⟩ := ha
  obtain ⟨tb, pb, qb⟩ := hr
  refine ⟨_, pk_cons pa pb, fun P G H σ env Q R g ev hf hR => ?_⟩
  exact qa P G H σ env _ _ g ev hf fun x P1 G1 H1 dx gr1 g1 rx hf1 => qb P1 G1 H1 σ env _ _ g1 (ev.grow gr1) hf1 fun xs P2 G2 H2 ds gr2 g2 rs hq =>
    hR _ P2 G2 H2 _ (gr1.trans gr2) g2 (.cons (gr2.rep rx) rs) hq
/-- f(.., k = v) -/
@[simp] def xCallN (j : Nat) (F : FC) (n m : Nat) (ix : List Nat) (dds : List D) (far fark : FA) : FX := fun env n0 Q => far env n0 fun ds m1 => fark env m1 fun es m2 => ds.length = n ∧ es.length = m ∧ (pick (ds ++ es ++ dds) ix).length = j ∧ F (pick (ds ++ es ++ dds) ix) m2 Q
theorem callN_lift {t tk : TA} {dvs : List V} {m : Nat} (hdd : ∀ (G : Hp) (iv : IV), Reps κ G iv dvs dds) (ha : RdA κ far t) (hk : RdA κ fark tk) : RdX κ (xCallN j F n m ix dds far fark) (tCallN n m (spD κ j F) (fun vs zs => pick (vs ++ zs ++ dvs) ix) E0 t tk) := fun P G H σ env Q R g ev hf hR =>
  ha P G H σ env _ _ g ev hf fun vs P1 G1 H1 ds gr1 g1 r1 h1 => hk P1 G1 H1 σ env _ _ g1 (ev.grow gr1) h1 fun zs P2 G2 H2 es gr2 g2 r2 h2 => by
    have r := reps_pick (((gr2.reps r1).append r2).append (hdd G2 P2.iv)) ix
    refine ⟨by rw [r1.length]; exact h2.1, by rw [r2.length]; exact h2.2.1, by rw [r.length]; exact h2.2.2.1, P2, G2, _, Q, g2, r, h2.2.2.2, fun v s P3 G3 H3 gr3 g3 rs hq => hR v s P3 G3 H3 ((gr1.trans gr2).trans gr3) g3 (rs.base fun a ha => (gr1.trans gr2).back ha) hq⟩
theorem pe_callN0 {CX : CXT} {fa : Addr} {fd : FuncData} {ps : List Str} {sp : Sp} {E : XK} {g : List Value → List Value → List Value} {gV : List V → List V → List V} {tk : TA} (F : FnOk X.prog X.w X.K X.mg X.base CX k fa fd ps sp) (hr : Room k X.A) (hg : Gl X x) (hm : X.mg x = some (.ref fa)) (hk : PySem.W.keepIn X.K (.ref fa) = true) (hb : KBn X.K fd ps 0 ks g gV) (hx : Passes CX X E)
    (hkw : PK X kws tk) (hall : (backToKw pos (keywordEach kws X.env)).all (·.1.isSome) = true := by rfl) (hks : (backToKw pos (keywordEach kws X.env)).filterMap (·.1) = ks := by rfl)
    (hdb : (x == ("__debug__" : Str)) = false := by decide)
    (hpl : ((backTo pos (starEach [] X.env)).any (·.1) || (backToKw pos (keywordEach kws X.env)).any (·.1.isNone)) = false := by rfl) :
    PE X (.Call (.Name x p) [] kws pos) (tCallN 0 ks.length sp gV E tNil tk) := by
  refine ⟨fun pins s σ H Q I h => ?_⟩
  refine wpAny_Call_Name_kw (ld_glob I hg hm ?_ hdb)
  refine PySem.W.callWith_KW0 (h₀ := X.base) I.ok.mod.kin hk hall (thn (hkw.run pos pins s σ H _ I h) fun ws s2 ⟨zs, H2, I2, rz, l1, l2, q2⟩ => ⟨I2.kIn, ?_⟩) hpl
  rw [hks]
  exact run_fnN F hr hb hx I2 .nil rz l1 l2 q2
variable (c : CalN κ X.prog X.w X.K X.mg X.base x k j F n ks ix dds) (hr : Room k' X.A)
include hr
theorem dx_callN (c : CalN κ X.prog X.w X.K X.mg X.base x k j F n ks ix dds) (ha : DA κ X (e :: es) far) (hkw : DK κ X kws fark) {m : Nat} (hl : ks.length = m := by rfl) (hk : k ≤ k' := by first | decide | exact Nat.le_refl _ | omega) (hg : Gl X x := by rfl) (hall : (backToKw pos (keywordEach kws X.env)).all (·.1.isSome) = true := by rfl) (hks : (backToKw pos (keywordEach kws X.env)).filterMap (·.1) = ks := by rfl) (hdb : (x == ("__debug__" : Str)) = false := by decide) (he : starEach (e :: es) X.env = (false, eval e X.env) :: starEach es X.env := by rfl)
    (hpl : ((backTo pos (starEach (e :: es) X.env)).any (·.1) || (backToKw pos (keywordEach kws X.env)).any (·.1.isNone)) = false := by rfl) :
    DX κ X (.Call (.Name x p) (e :: es) kws pos) (xCallN j F n m ix dds far fark) := by
  subst hl
  obtain ⟨f, fd, ps, dvs, its, Fn, hm, hkp, hb, hdd⟩ := c
  obtain ⟨t, pt, q⟩ := ha
  obtain ⟨tk, ptk, qk⟩ := hkw
  exact ⟨_, pe_callN Fn (hr.mono hk) hg hm hkp hb pass0 pt ptk hall hks hdb he hpl, callN_lift hdd q qk⟩
theorem dx_callN0 (c : CalN κ X.prog X.w X.K X.mg X.base x k j F 0 ks ix dds) (hkw : DK κ X kws fark) {m : Nat} (hl : ks.length = m := by rfl) (hk : k ≤ k' := by first | decide | exact Nat.le_refl _ | omega) (hg : Gl X x := by rfl) (hall : (backToKw pos (keywordEach kws X.env)).all (·.1.isSome) = true := by rfl) (hks : (backToKw pos (keywordEach kws X.env)).filterMap (·.1) = ks := by rfl) (hdb : (x == ("__debug__" : Str)) = false := by decide)
    (hpl : ((backTo pos (starEach [] X.env)).any (·.1) || (backToKw pos (keywordEach kws X.env)).any (·.1.isNone)) = false := by rfl) :
    DX κ X (.Call (.Name x p) [] kws pos) (xCallN j F 0 m ix dds aNil fark) := by
  subst hl
  obtain ⟨f, fd, ps, dvs, its, Fn, hm, hkp, hb, hdd⟩ := c
  obtain ⟨tk, ptk, qk⟩ := hkw
  exact ⟨_, pe_callN0 Fn (hr.mono hk) hg hm hkp hb pass0 ptk hall hks hdb hpl, callN_lift hdd (fun P G H σ env Q R g ev h hR => hR [] P G H [] .refl g .nil h) qk⟩
omit hr
/-- a value or a new list, seen -/
@[simp] def fOfX (fx : FX) : FE := fun env n Q => fx env n fun s k => Q s.view k
@[simp] def oOfX (fx : FX) : FA := fun env n Q => fx env n fun s k => ∃ xs, s = .own xs ∧ Q xs k
theorem DX.deX {e : Expr} {fx : FX} (h : DX κ X e fx) : DE κ X e (fOfX fx) := by
  obtain ⟨t, pt, q⟩ := h
  refine ⟨t, pt, fun P G H σ env Q R g ev hf hR => q P G H σ env (fun s k => Q s.view k) R g ev hf fun v s P' G' H' gr g' rs hq => ?_⟩
  obtain ⟨G2, gr2, g2, r2⟩ := sl_frz gr g' rs
  exact hR v P' G2 H' _ gr2 g2 r2 hq
theorem DX.doX {e : Expr} {fx : FX} (h : DX κ X e fx) : DO κ X e (oOfX fx) := by
  obtain ⟨t, pt, q⟩ := h
  refine ⟨t, pt, fun P G H σ env Q R g ev hf hR => q P G H σ env (fun s k => ∃ xs, s = .own xs ∧ Q xs k) R g ev hf fun v s P' G' H' gr g' rs hq => ?_⟩
  obtain ⟨xs, e, hq⟩ := hq
  subst e
  obtain ⟨a, ea, vs, h1, h2, h3, h4, h5, h6⟩ := rs
  subst ea
  exact hR a P' G' H' vs xs gr g' h3 h4 h5 h1 h2 h6 hq
end
end DL

/-! ## DL18 -/
/-! DL18: backwards; list(range(..)) -/
namespace DL
open PySem PySem.Spec PyProof.Rows L2
section
variable {κ : Kit} {X : Cx} {a b e : Expr} {f fa fb : FE} {te : TE} {k : Nat} {p p1 p2 p3 pos : Pos}
theorem made_rev (z : Str) (t u : Tok) : sliceMade z t none none (some (-1, u)) = .str ⟨z.cps.toList.reverse.toArray⟩ := by
  show (if ((-1 : Int) == 1 && _) = true then _ else _) = _
  rw [if_neg (by simp)]
  congr 2
  show ((sliceRange ((z.cps.size : Int) - 1) (-1) (-1)).filterMap (z.cps[·]?)).toArray = _
  rw [PySem.W.krv_sliceRange, PySem.W.krv_range, List.filterMap_reverse, PySem.W.krv_all]
def tRevE (K : PySem.W.Frag) (te : TE) : TE := fun σ H Q => te σ H fun x H1 => (∃ a xs, x = .ref a ∧ SqL K H1 a xs ∧ ∀ p, H1 p = none → Q (.ref p) (upd H1 p (.lst xs.reverse))) ∨ ∃ z : Str, x = .str z ∧ z.length ≤ sizeLine ∧ Q (.str ⟨z.cps.toList.reverse.toArray⟩) H1
theorem pe_revE (he : PE X e te) : PE X (.Subscript e (.Slice none none (some (.UnaryOp .USub (.Constant (.int 1) k p1) p2)) p3) pos) (tRevE X.K te) := by
  refine ⟨fun pins s σ H Q I h => ?_⟩
  refine Subscript_ (thn (he.run pins s σ H _ I h) fun v s1 ⟨x, H1, I1, r1, q1⟩ => ?_)
  have hst : PO X (some (.UnaryOp .USub (.Constant (.int 1) k p1) p2)) (tPart (tUn (rU fun i => .int (-i)) (tC (.int 1)))) := po_some (pe_un un_neg pe_int)
  refine wpAny_Slice (thn (po_none.run pins s1 σ H1 (fun o H2 => o = none ∧ H2 = H1) I1 ⟨rfl, rfl⟩) fun vl s2 ⟨l, H2, I2, pl, el, e2⟩ => ?_)
  subst el e2
  refine thn (po_none.run pins s2 σ H2 (fun o H3 => o = none ∧ H3 = H2) I2 ⟨rfl, rfl⟩) fun vu s3 ⟨u, H3, I3, pu, eu, e3⟩ => ?_
  subst eu e3
  refine thn (hst.run pins s3 σ H3 (fun o H4 => o = some (-1) ∧ H4 = H3) I3 ⟨1, rfl, -1, rfl, rfl, rfl⟩) fun vs s4 ⟨o, H4, I4, ps, eo, e4⟩ => ?_
  subst eo e4
  have I5 : Inv X pins σ H4 { s4 with heap := s4.heap.push { cls := .type "slice", data := .fields #[vl, vu, vs] } } := I4.kept (t' := s4.toks) fun b ob q => Heap.get?_push_of_some _ q
  rcases q1 with ⟨a, xs, ex, hx, q⟩ | ⟨z, ez, hz, q⟩
  · subst ex
    cases r1
    obtain ⟨its, r, ht, hz⟩ := I5.list hx
    have hlen := r.length
    show wpAny (model X.prog X.w) X.A (subscriptTail e (.Slice none none (some (.UnaryOp .USub (.Constant (.int 1) k p1) p2)) p3) (.ref a) (.ref s4.heap.objs.size)) (EP X pins σ Q) X.xe { s4 with heap := s4.heap.push { cls := .type "slice", data := .fields #[vl, vu, vs] } }
    refine tail_any (ops := [.ref a, .ref s4.heap.objs.size]) ht.isList.typeIs (PySem.slot_list_getitem.lookup) ?_ (by with_unfolding_all rfl)
    refine wpAny_getItem_list_slice ht.isList (Heap.IsSliceOf.new _ vl vu vs) pl pu ps (by decide) ?_ (by rw [List.size_toArray]; omega)
    rw [PySem.W.krv_pick]
    refine ⟨.ref _, _, I5.laid (t' := s4.toks) (o := .lst xs.reverse) (fun b ob q => Heap.get?_push_of_some _ q) (Nat.le_refl _) ?_, rfl, q _ (I5.hok.fresh (Nat.le_refl _))⟩
    exact ⟨by rw [List.length_reverse]; exact hz, _, 0, r.reverse, Heap.get?_push_size _ rfl⟩
  · subst ez
    obtain ⟨t, rfl⟩ := r1
    show wpAny (model X.prog X.w) X.A (subscriptTail e (.Slice none none (some (.UnaryOp .USub (.Constant (.int 1) k p1) p2)) p3) (.str z t) (.ref s4.heap.objs.size)) (EP X pins σ Q) X.xe { s4 with heap := s4.heap.push { cls := .type "slice", data := .fields #[vl, vu, vs] } }
    refine tail_any (ops := [.str z t, .ref s4.heap.objs.size]) (typeIs_str _ _ _) F.slot_str_getitem.lookup ?_ (by with_unfolding_all rfl)
    obtain ⟨l, rfl, e1⟩ := IsPart.raw pl
    obtain ⟨u, rfl, e2⟩ := IsPart.raw pu
    obtain ⟨o, rfl, e3⟩ := IsPart.raw ps
    obtain ⟨os, hos, hcs, hds⟩ := Heap.IsSliceOf.new s4.heap (partValue l) (partValue u) (partValue o)
    cases l with
    | some l => cases e1
    | none =>
    cases u with
    | some u => cases e2
    | none =>
    cases o with
    | none => cases e3
    | some o =>
    obtain ⟨i, t2⟩ := o
    cases e3
    refine wpAny_getItem_str_slice (l := none) (u := none) (st := some (Int.negSucc 0, t2)) ⟨os, hos, hcs, hds⟩ rfl ?_
    have ez : sliceMade z t none none (some (Int.negSucc 0, t2)) = .str ⟨z.cps.toList.reverse.toArray⟩ := made_rev z t t2
    rw [ez]
    exact ⟨by show z.cps.toList.reverse.toArray.size ≤ sizeLine; rw [List.size_toArray, List.length_reverse, Array.length_toList]; exact hz, .str _, _, I5.tok _, ⟨_, rfl⟩, q⟩
/-- e[::-1] -/
def gRev (x : D) (m : Nat) (Q : D → Nat → Prop) : Prop := match x with
  | .str s => Q (.str s.reverse) m
  | .lst xs => Q (.lst xs.reverse) m
  | _ => False
@[simp] def fRev (f : FE) : FE := fun env n Q => f env n fun x m => gRev x m Q
theorem e_rev (ha : DE κ X e f) (hK : κ.K = X.K := by rfl) : DE κ X (.Subscript e (.Slice none none (some (.UnaryOp .USub (.Constant (.int 1) k p1) p2)) p3) pos) (fRev f) := by
  obtain ⟨t, pt, q⟩ := ha
  refine ⟨_, pe_revE pt, fun P G H σ env Q R g ev hf hR => q P G H σ env _ _ g ev hf fun v P1 G1 H1 d gr g1 r hq => ?_⟩
  unfold gRev at hq
  split at hq
  · cases r with
    | str h => exact .inr ⟨_, rfl, h.1, hR _ P1 G1 H1 _ gr g1 (.str (s := _) (by
        refine ⟨by rw [List.length_reverse]; exact h.1, fun c hc => h.2 c (List.mem_reverse.mp hc)⟩)) hq⟩
  · cases r with
    | lst h z rs =>
      refine .inl ⟨_, _, rfl, SqL.of (g1.gx h rfl), fun p hp => ?_⟩
      have hg := g1.gnone hp
      exact hR _ P1 (upd G1 p (.lst _)) _ _ ((gr.put (gr.back hp)).frz (gr.back hp) hg) ((g1.new hp).frz hg (g1.inone hp) upd_same) (.lst upd_same (by rw [List.length_reverse]; exact z) (reps_frz hg rs.reverse)) hq
  · exact hq.elim
/-- list(range(..)) -/
def gListR1 (d : D) (m : Nat) (Q : List D → Nat → Prop) : Prop := match d with
  | .int j => (j ≤ 16777216 ∧ -(2 ^ 61) < j) ∧ Q (ups 0 j.toNat) m
  | _ => False
def gListR2 (d c : D) (k : Nat) (Q : List D → Nat → Prop) : Prop := match d, c with
  | .int i, .int j => (j - i ≤ 16777216 ∧ -(2 ^ 61) < i ∧ i < 2 ^ 61 ∧ -(2 ^ 61) < j) ∧ Q (ups i (j - i).toNat) k
  | _, _ => False
@[simp] def oListR1 (f : FE) : FA := fun env n Q => f env n fun d m => gListR1 d m Q
@[simp] def oListR2 (f h : FE) : FA := fun env n Q => f env n fun d m => h env m fun c k => gListR2 d c k Q
theorem reps_rg {G : Hp} {iv : IV} (i j : Int) : Reps κ G iv (rgV i j) (ups i (j - i).toNat) := by
  have := Reps.ints (κ := κ) (G := G) (iv := iv) (ns := (List.range (j - i).toNat).map fun k : Nat => i + (k : Int))
  rw [List.map_map, List.map_map] at this
  exact this
theorem o_listR1 (hm : X.mg "list" = none) (hr : X.mg "range" = none) (ha : DE κ X a fa) (hc : X.calm = true := by rfl) (hg : Gl X "list" := by rfl) (hg2 : Gl X "range" := by rfl) {q1 q2 : Pos}
    (na : starEach [.Call (.Name "range" p) [a] [] pos] X.env = (false, eval (.Call (.Name "range" p) [a] [] pos) X.env) :: starEach [] X.env := by rfl) (nb : starEach [a] X.env = (false, eval a X.env) :: starEach [] X.env := by rfl) :
    DO κ X (.Call (.Name "list" q1) [.Call (.Name "range" p) [a] [] pos] [] q2) (oListR1 fa) := by
  obtain ⟨t, pt, q⟩ := ha
  refine ⟨_, pe_listRg hc hg hm (prg_1 hg2 hr pt nb) na, fun P G H σ env Q R g ev hf hR => q P G H σ env _ _ g ev hf fun v P1 G1 H1 d gr g1 r hq => ?_⟩
  have hl : sizeLine = 16777216 := sizeLine_eq
  unfold gListR1 at hq
  split at hq
  · obtain ⟨hj, hq⟩ := hq
    cases r
    refine ⟨_, rfl, ⟨by omega, by omega, by omega, by omega, by omega⟩, fun p hp => ?_⟩
    have rr := reps_rg (κ := κ) (G := G1) (iv := P1.iv) 0 (by assumption)
    rw [Int.sub_zero] at rr
    exact hR p P1 G1 _ _ _ (gr.put (gr.back hp)) (g1.new hp) (gr.back hp) (g1.gnone hp) (g1.inone hp) upd_same (by rw [rgV_length]; omega) rr hq
  · exact hq.elim
theorem o_listR2 (hm : X.mg "list" = none) (hr : X.mg "range" = none) (ha : DE κ X a fa) (hb : DE κ X b fb) (hc : X.calm = true := by rfl) (hg : Gl X "list" := by rfl) (hg2 : Gl X "range" := by rfl) {q1 q2 : Pos}
    (na : starEach [.Call (.Name "range" p) [a, b] [] pos] X.env = (false, eval (.Call (.Name "range" p) [a, b] [] pos) X.env) :: starEach [] X.env := by rfl) (nb : starEach [a, b] X.env = (false, eval a X.env) :: starEach [b] X.env := by rfl)
    (nc : starEach [b] X.env = (false, eval b X.env) :: starEach [] X.env := by rfl) (hp : (backTo pos (starEach [b] X.env)).any (·.1) = false := by rfl) :
    DO κ X (.Call (.Name "list" q1) [.Call (.Name "range" p) [a, b] [] pos] [] q2) (oListR2 fa fb) := by
  obtain ⟨t, pt, q⟩ := ha
  obtain ⟨t2, pt2, qb⟩ := hb
  refine ⟨_, pe_listRg hc hg hm (prg_2 hg2 hr pt pt2 nb nc hp) na, fun P G H σ env Q R g ev hf hR => q P G H σ env _ _ g ev hf fun v P1 G1 H1 d gr g1 r hq => qb P1 G1 H1 σ env _ _ g1 (ev.grow gr) hq fun u P2 G2 H2 c gr2 g2 r2 hq => ?_⟩
  have hl : sizeLine = 16777216 := sizeLine_eq
  unfold gListR2 at hq
  split at hq
  · obtain ⟨hj, hq⟩ := hq
    cases r
    cases r2
    refine ⟨_, _, rfl, rfl, ⟨by omega, by omega, by omega, by omega, by omega⟩, fun p hp => ?_⟩
    exact hR p P2 G2 _ _ _ ((gr.trans gr2).put ((gr.trans gr2).back hp)) (g2.new hp) ((gr.trans gr2).back hp) (g2.gnone hp) (g2.inone hp) upd_same (by rw [rgV_length]; omega) (reps_rg _ _) hq
  · exact hq.elim
end
end DL

/-! ## DL19 -/
/-! DL19: dicts of a def's own; walks over dicts -/
namespace DL
open PySem PySem.Spec PyProof.Rows L2
/-- a dict behind d[k] = v -/
def putKs (ks : List D) (k : D) : List D := if k ∈ ks then ks else ks ++ [k]
def putVs : List D → List D → D → D → List D
  | k' :: ks, v' :: vs, k, v => if k' = k then v :: vs else v' :: putVs ks vs k v
  | _, _, _, v => [v]
theorem key_of {d : D} (h : isKeyD d = true) : ∃ k : Key, d = keyD k := by
  cases d with
  | int i => exact ⟨.inl i, rfl⟩
  | str s => exact ⟨.inr ⟨s.toArray⟩, by simp [keyD]⟩
  | _ => simp at h
open Classical in
theorem putK_zip {k : Key} {v : V} : ∀ {ks : List Key} {us : List V}, ks.length = us.length → ks.Nodup →
    ∃ ks' us', putK (ks.zip us) k v = ks'.zip us' ∧ ks'.length = us'.length ∧ ks' = (if k ∈ ks then ks else ks ++ [k]) ∧ (∀ {κ : Kit} {G : Hp} {iv : IV} {vs : List D} {d : D}, Reps κ G iv us vs → Rep κ G iv v d → Reps κ G iv us' (putVs (ks.map keyD) vs (keyD k) d)) := by
  intro ks us hl hn
  by_cases hk : k ∈ ks
  · refine ⟨ks, (ks.zip us).map (fun p => if p.1 = k then v else p.2), ?_, by simp [hl], by rw [if_pos hk], ?_⟩
    · unfold putK
      have h1 : (ks.zip us).any (fun kv => decide (kv.1 = k)) = true := by
        rw [List.any_eq_true]
        obtain ⟨i, hi, e⟩ := List.getElem_of_mem hk
        exact ⟨(ks[i], us[i]'(by omega)), by rw [List.mem_iff_getElem]; exact ⟨i, by simp; omega, by simp⟩, by simp [e]⟩
      rw [if_pos h1]
      refine List.ext_getElem (by simp) fun i h1 h2 => ?_
      simp only [List.getElem_map, List.getElem_zip]
      split <;> rfl
    · intro κ G iv vs d
      revert us vs
      induction ks with
      | nil => simp at hk
      | cons a ks ih =>
        intro us hl vs r rd
        cases us with
        | nil => simp at hl
        | cons u us =>
          cases r with
          | cons r t =>
            simp only [List.map_cons, List.zip_cons_cons, putVs]
            rw [List.nodup_cons] at hn
            by_cases ha : a = k
            · subst ha
              rw [if_pos rfl, if_pos rfl]
              refine .cons rd ?_
              have : (ks.zip us).map (fun p => if p.1 = a then v else p.2) = us := by
                refine List.ext_getElem (by simp at hl ⊢; omega) fun i h1 h2 => ?_
                simp only [List.getElem_map, List.getElem_zip]
                rw [if_neg]
                intro e
                exact hn.1 (e ▸ List.getElem_mem _)
              rw [this]; exact t
            · rw [if_neg ha, if_neg fun e => ha (keyD_inj e)]
              refine .cons r (ih hn.2 ?_ (by simpa using hl) t rd)
              rcases List.mem_cons.mp hk with e | e
              · exact absurd e.symm ha
              · exact e
  · refine ⟨ks ++ [k], us ++ [v], ?_, by simp [hl], by rw [if_neg hk], ?_⟩
    · unfold putK
      have h1 : ¬ (ks.zip us).any (fun kv => decide (kv.1 = k)) = true := by
        rw [List.any_eq_true]
        rintro ⟨p, hp, e⟩
        simp at e
        exact hk (e ▸ (List.of_mem_zip hp).1)
      rw [if_neg h1, List.zip_append hl]
      rfl
    · intro κ G iv vs d
      revert us vs
      induction ks with
      | nil =>
        intro us hl vs r rd
        cases us with
        | nil => cases r; exact .cons rd .nil
        | cons => simp at hl
      | cons a ks ih =>
        intro us hl vs r rd
        cases us with
        | nil => simp at hl
        | cons u us =>
          cases r with
          | cons r t =>
            simp only [List.map_cons, putVs, List.cons_append]
            rw [List.mem_cons, not_or] at hk
            rw [if_neg fun e => hk.1 (keyD_inj e).symm]
            exact .cons r (ih (List.nodup_cons.mp hn).2 hk.2 (by simpa using hl) t rd)
theorem keyD_mem {k : Key} {ks : List Key} : keyD k ∈ ks.map keyD ↔ k ∈ ks := by
  constructor
  · intro h
    obtain ⟨j, hj, e⟩ := List.mem_map.mp h
    exact keyD_inj e ▸ hj
  · exact fun h => List.mem_map.mpr ⟨k, h, rfl⟩
open Classical in
theorem putKs_map {k : Key} {ks : List Key} : putKs (ks.map keyD) (keyD k) = (if k ∈ ks then ks else ks ++ [k]).map keyD := by
  unfold putKs
  by_cases h : k ∈ ks
  · rw [if_pos h, if_pos (keyD_mem.mpr h)]
  · rw [if_neg h, if_neg fun z => h (keyD_mem.mp z), List.map_append]; rfl
open Classical in
theorem OkKs.put {k : Key} {ks : List Key} (h : OkKs ks) (hk : OkK k) : OkKs (if k ∈ ks then ks else ks ++ [k]) := by
  by_cases e : k ∈ ks
  · rw [if_pos e]; exact h
  · rw [if_neg e]
    refine ⟨List.nodup_append.mpr ⟨h.1, by simp, ?_⟩, fun j hj => ?_⟩
    · intro x hx y hy exy
      simp at hy
      subst hy exy
      exact e hx
    · rcases List.mem_append.mp hj with hj | hj
      · exact h.2 j hj
      · simp at hj; rw [hj]; exact hk
theorem rep_keyOk {κ : Kit} {G : Hp} {iv : IV} {v : V} {k : Key} (r : Rep κ G iv v (keyD k)) : v = kV k ∧ OkK k := by
  cases k with
  | inl i => cases r; exact ⟨rfl, trivial⟩
  | inr x =>
    cases r with
    | str h => exact ⟨rfl, h⟩
section
variable {κ : Kit} {X : Cx} {H0 : Hp} {P : Wd} {G H : Hp} {σ : L2.St} {env : SEnv} {a b e : Expr} {st : Stmt} {sts : List Stmt} {fa fb f : FE} {fo : FA} {ft t1 : FT} {s1 s2 : FS} {te : TE} {tt : TT} {pos : Pos} {es : List Expr} {far : FA}
/-- an own dict changes -/
theorem SEnvR.putD (ev : SEnvR κ H0 P G H σ env) {i : Nat} {ks vs ks' vs' : List D} {a : Addr} {kk : List Key} {us : List V} (h : env[i]? = some (some (.ownd ks vs))) (hs : σ[i]? = some (some (.ref a))) (hl : kk.length = us.length) (hz : kk.length ≤ sizeLine) (nd : OkKs kk) (ek : ks' = kk.map keyD) (r : Reps κ G P.iv us vs') :
    SEnvR κ H0 P G (upd H a (.dK (kk.zip us))) σ (env.set i (some (.ownd ks' vs'))) := by
  obtain ⟨v, q1, b, eb, k0, u0, h1, h2, h2', h3, h3', h4, h5, h6, h7⟩ := ev.get i _ h
  subst eb
  rw [hs] at q1
  cases q1
  have hlen : i < env.length := (List.getElem?_eq_some_iff.mp h).1
  refine ⟨by rw [List.length_set]; exact ev.len, fun j s hj => ?_, fun j k s t b hjk h1' h2' o1 o2 e1 e2 => ?_⟩
  · by_cases hij : i = j
    · subst hij
      rw [List.getElem?_set_self hlen] at hj
      cases hj
      exact ⟨_, hs, _, rfl, kk, us, upd_same, hl, hz, nd, ek, h4, h5, h6, r⟩
    · rw [List.getElem?_set_ne hij] at hj
      obtain ⟨v, w1, w2⟩ := ev.get j s hj
      refine ⟨v, w1, ?_⟩
      cases s with
      | val d => exact w2
      | own zs =>
        obtain ⟨b, eb, ws, k1, k2, k3, k4, k5, k6⟩ := w2
        subst eb
        have hba : b ≠ a := fun e => by subst e; exact ev.apart i j _ _ b hij h hj rfl rfl hs w1
        exact ⟨b, rfl, ws, by rw [upd_ne hba]; exact k1, k2, k3, k4, k5, k6⟩
      | ownd ks ws =>
        obtain ⟨b, eb, kk, us, k1, kl, kz, kn, kk', k3, k4, k5, k6⟩ := w2
        subst eb
        have hba : b ≠ a := fun e => by subst e; exact ev.apart i j _ _ b hij h hj rfl rfl hs w1
        exact ⟨b, rfl, kk, us, by rw [upd_ne hba]; exact k1, kl, kz, kn, kk', k3, k4, k5, k6⟩
  · have key : ∀ j s, (env.set i (some (Sl.ownd ks' vs')))[j]? = some (some s) → isOwn s = true → ∃ s', env[j]? = some (some s') ∧ isOwn s' = true := fun j s hj ho => by
      by_cases hij : i = j
      · subst hij; exact ⟨_, h, rfl⟩
      · rw [List.getElem?_set_ne hij] at hj; exact ⟨s, hj, ho⟩
    obtain ⟨s', w1, w2⟩ := key j s h1' o1
    obtain ⟨t', w3, w4⟩ := key k t h2' o2
    exact ev.apart j k s' t' b hjk w1 w3 w2 w4 e1 e2
/-! ### x = {} -/
@[simp] def sDct (i : Nat) : FS := fun D env n => D.nx (env.set i (some (.ownd [] []))) n
theorem d1_dct (i : Nat) {x : Str} {p2 pd : Pos} (hN : X.N.Nodup) (hi : X.N[i]? = some x := by rfl) (hx : Loc X.env.scope x := by first | exact .inl rfl | exact .inr rfl) (hs : swapsWith (.Dict [] [] pd) (some (.Name x p2)) pos.line X.env = pure false := by rfl) (hfn : X.fn x = true ∨ X.env.scope.names.lookup x = some .local := by first | exact .inl rfl | exact .inr rfl) :
    D1 κ X (.Assign [.Name x p2] (.Dict [] [] pd) pos) (sDct i) := by
  refine ⟨_, ps_set hN hi hx pe_dnewK hs hfn, fun P0 G0 H0 P G H σ env D E gr g ev hf ok => ?_⟩
  intro p hp
  refine ok.nx P G _ _ _ (gr.trans (Grow.new hp)) (g.new hp) ?_ hf
  refine (ev.grow (Grow.new hp)).setO (s := .ownd [] []) ⟨p, rfl, [], [], upd_same, rfl, Nat.zero_le _, ⟨List.nodup_nil, fun _ h => nomatch h⟩, rfl, gr.back hp, g.gnone hp, g.inone hp, .nil⟩ (not_priv ev hp)
/-! ### x[k] = e, x an own dict -/
@[simp] def sSetD (i : Nat) (fv fk : FE) : FS := fun D env n => fv (hide env) n fun d m => ∃ ks vs, env[i]? = some (some (.ownd ks vs)) ∧ fk (hide env) m fun k m2 => isKeyD k = true ∧ ks.length < 16777216 ∧ D.nx (env.set i (some (.ownd (putKs ks k) (putVs ks vs k d)))) m2
@[simp] def sSetDV (i : Nat) (fv fk : FE) : FS := fun D env n => fv (view env) n fun d m => flatD d = true ∧ ∃ ks vs, env[i]? = some (some (.ownd ks vs)) ∧ fk (view env) m fun k m2 => flatD k = true ∧ isKeyD k = true ∧ ks.length < 16777216 ∧ D.nx (env.set i (some (.ownd (putKs ks k) (putVs ks vs k d)))) m2
theorem setD_end {P0 : Wd} {G0 : Hp} {D : DEnds} {E : Ends} {P2 : Wd} {G2 H2 : Hp} {i : Nat} {v w : V} {d k : DL.D} {ks vs : List DL.D} {a : Addr} (gr : Grow P0 G0 H0 P2 G2 H2) (g : Good κ P2 G2 H2) (ev : SEnvR κ H0 P2 G2 H2 σ env) (h : env[i]? = some (some (.ownd ks vs))) (hs : σ[i]? = some (some (.ref a))) (rv : Rep κ G2 P2.iv v d) (rk : Rep κ G2 P2.iv w k) (hk : isKeyD k = true) (hz : ks.length < 16777216) (ok : EndsOk κ P0 G0 H0 D E) (q : D.nx (env.set i (some (.ownd (putKs ks k) (putVs ks vs k d)))) P2.n) :
    ∃ a' H4, V.ref a = .ref a' ∧ DPut H2 a' w v H4 ∧ E.nx σ H4 := by
  obtain ⟨u, q1, b, eb, kk, us, h1, h2, h2', h3, h3', h4, h5, h6, h7⟩ := ev.get i _ h
  subst eb
  rw [hs] at q1
  cases q1
  obtain ⟨k1, rfl⟩ := key_of hk
  obtain ⟨ew, okk⟩ := rep_keyOk rk
  subst ew h3'
  have hsz : sizeLine = 16777216 := PySem.sizeLine_eq
  have hzl : (kk.zip us).length < sizeLine := by rw [List.length_zip, ← h2, Nat.min_self]; rw [List.length_map] at hz; omega
  obtain ⟨ks', us', e1, e2, e3, e4⟩ := putK_zip (k := k1) (v := v) h2 h3.1
  refine ⟨a, _, rfl, DPut.k h1 hzl, ?_⟩
  rw [e1]
  refine ok.nx P2 G2 _ σ _ (gr.put h4) (g.put h5 h6) (ev.putD h hs e2 ?_ (by rw [e3]; exact h3.put okk) (by rw [e3]; exact putKs_map) (e4 h7 rv)) q
  rw [List.length_map] at hz
  rw [e3]
  split
  · omega
  · rw [List.length_append]; simp; omega
theorem d1_setD (i : Nat) {x : Str} {p2 p3 : Pos} {k : Expr} (hu : X.A.units + 1 < cLine) (hN : X.N[i]? = some x) (hv : Vis X.env.scope x) (hva : DE κ X e fa) (hk : DE κ X k fb) (hs : swapsWith e (some (.Subscript (.Name x p2) k p3)) pos.line X.env = pure false := by rfl)
    (hd : (x == ("__debug__" : Str)) = false := by decide) (hcd : (x == ("__classdict__" : Str)) = false := by decide) : D1 κ X (.Assign [.Subscript (.Name x p2) k p3] e pos) (sSetD i fa fb) := by
  obtain ⟨tv, pv, qv⟩ := hva
  obtain ⟨tk, pk, qk⟩ := hk
  refine ⟨_, ps_dput hu (pe_var hN hv hd hcd) pk pv hs, fun P0 G0 H0 P G H σ env D E gr g ev hf ok => ?_⟩
  refine at_hide qv g ev hf fun v P1 G1 H1 d gr1 g1 ev1 rv h1 => ?_
  obtain ⟨ks, vs, hx, h1⟩ := h1
  obtain ⟨u, q1, a, ea, w⟩ := ev1.get i _ hx
  subst ea
  refine ⟨_, q1, at_hide qk g1 ev1 h1 fun w P2 G2 H2 dk gr2 g2 ev2 rw' h2 => ?_⟩
  exact setD_end ((gr.trans gr1).trans gr2) g2 ev2 hx q1 (gr2.rep rv) rw' h2.1 h2.2.1 ok h2.2.2
theorem d1_setDV (i : Nat) {x : Str} {p2 p3 : Pos} {k : Expr} (hu : X.A.units + 1 < cLine) (hN : X.N[i]? = some x) (hv : Vis X.env.scope x) (hva : DE κ X e fa) (hk : DE κ X k fb) (hs : swapsWith e (some (.Subscript (.Name x p2) k p3)) pos.line X.env = pure false := by rfl)
    (hd : (x == ("__debug__" : Str)) = false := by decide) (hcd : (x == ("__classdict__" : Str)) = false := by decide) : D1 κ X (.Assign [.Subscript (.Name x p2) k p3] e pos) (sSetDV i fa fb) := by
  obtain ⟨tv, pv, qv⟩ := hva
  obtain ⟨tk, pk, qk⟩ := hk
  refine ⟨_, ps_dput hu (pe_var hN hv hd hcd) pk pv hs, fun P0 G0 H0 P G H σ env D E gr g ev hf ok => ?_⟩
  refine at_view qv g ev hf fun v P1 G1 H1 d gr1 g1 ev1 rv h1 => ?_
  obtain ⟨ks, vs, hx, h1⟩ := h1
  obtain ⟨u, q1, a, ea, w⟩ := ev1.get i _ hx
  subst ea
  refine ⟨_, q1, at_view qk g1 ev1 h1 fun w P2 G2 H2 dk gr2 g2 ev2 rw' h2 => ?_⟩
  exact setD_end ((gr.trans gr1).trans gr2) g2 ev2 hx q1 (gr2.rep rv) rw' h2.1 h2.2.1 ok h2.2.2
/-! ### x *= e -/
theorem ip_mulI : PIp X .Mult (fun x y H Q => ∃ i j, x = .int i ∧ y = .int j ∧ MulOk i j ∧ Q (.int (i * j)) H) := by
  intro pins s σ H x y v u Q I r1 r2 h
  obtain ⟨i, j, e1, e2, hm, q⟩ := h
  subst e1; subst e2
  obtain ⟨t, rfl⟩ := r1
  obtain ⟨t', rfl⟩ := r2
  exact imul_int ⟨.int _, H, I.tok _, ⟨_, rfl⟩, q⟩ hm.ok
/-- a number times a number -/
def gMulI (x y : D) (n : Nat) (Q : D → Nat → Prop) : Prop := ∃ i j, x = .int i ∧ y = .int j ∧ MulOk i j ∧ Q (.int (i * j)) n
@[simp] theorem w_mulI {i j : Int} {n : Nat} {Q : D → Nat → Prop} : gMulI (.int i) (.int j) n Q = (MulOk i j ∧ Q (.int (i * j)) n) := by
  refine propext ⟨?_, fun h => ⟨i, j, rfl, rfl, h⟩⟩
  rintro ⟨a, b, e1, e2, h⟩
  cases e1; cases e2
  exact h
theorem S_augM (i : Nat) {x : Str} {p2 : Pos} (hN : X.N.Nodup) (h : DE κ X e f) (hi : X.N[i]? = some x := by rfl) (hx : Loc X.env.scope x := by first | exact Or.inl rfl | exact Or.inr rfl) (hfn : X.fn x = true ∨ X.env.scope.names.lookup x = some .local := by first | exact Or.inl rfl | exact Or.inr rfl) : D1 κ X (.AugAssign (.Name x p2) .Mult e pos) (sAug gMulI i f) := by
  obtain ⟨t, p, q⟩ := h
  refine ⟨_, ps_aug hN hi hx p ip_mulI hfn, aug_lift ?_ q⟩
  intro P G H x y dx dy Q R g rx ry hf hR
  obtain ⟨a, b, e1, e2, hm, hq⟩ := hf
  subst e1; subst e2
  cases rx; cases ry
  exact ⟨_, _, rfl, rfl, hm, hR _ P G H _ .refl g .int hq⟩
/-! ### range downwards -/
def downs (hi : Int) (n : Nat) : List D := (List.range n).map fun i => .int (hi - (i : Nat))
def gRange3 (ds : List D) (m : Nat) (Q : List D → Nat → Prop) : Prop := match ds with
  | [.int i, .int j, .int c] => c = -1 ∧ (i - j ≤ 16777216 ∧ -(2 ^ 61) < i ∧ i < 2 ^ 61 ∧ -(2 ^ 61) < j ∧ j < 2 ^ 61) ∧ Q (downs i (i - j).toNat) m
  | _ => False
@[simp] theorem w_rg3 {i j c : Int} {n : Nat} {R : List D → Nat → Prop} : gRange3 [.int i, .int j, .int c] n R = (c = -1 ∧ (i - j ≤ 16777216 ∧ -2305843009213693952 < i ∧ i < 2305843009213693952 ∧ -2305843009213693952 < j ∧ j < 2305843009213693952) ∧ R (downs i (i - j).toNat) n) := rfl
@[simp] def iRange3 (fa : FA) : FA := fun env n Q => fa env n fun ds m => gRange3 ds m Q
theorem i_r3 {c tg : Expr} {fa fb fc : FE} {p : Pos} (hm : X.mg "range" = none) (ha : DE κ X a fa) (hb : DE κ X b fb) (hc : DE κ X c fc) (hg : Gl X "range" := by rfl) (hs : starEach [a, b, c] X.env = (false, eval a X.env) :: starEach [b, c] X.env := by rfl) (hs1 : starEach [b, c] X.env = (false, eval b X.env) :: starEach [c] X.env := by rfl) (hs2 : starEach [c] X.env = (false, eval c X.env) :: starEach [] X.env := by rfl) (hpl : (backTo pos (starEach [b, c] X.env)).any (·.1) = false := by rfl) :
    DI κ X tg (.Call (.Name "range" p) [a, b, c] [] pos) (iRange3 (aCons fa (aCons fb (aCons fc aNil)))) := by
  obtain ⟨ta, pa, qa⟩ := da_cons ha (da_cons hb (da_cons hc da_nil hs2) hs1) hs
  refine DI0.j ⟨_, pi_range3 hg hm pa hs hpl, fun P G H σ env Q R g ev hf hR => ?_⟩
  refine qa P G H σ env _ _ g ev hf fun vs P1 G1 H1 ds gr g1 r hq => ?_
  have hsz : sizeLine = 16777216 := PySem.sizeLine_eq
  unfold gRange3 at hq
  split at hq
  · rename_i i j c
    obtain ⟨rfl, ⟨h1, h2, h3, h4, h5⟩, hq⟩ := hq
    cases r with
    | cons r r' => cases r' with
      | cons r1 r' => cases r' with
        | cons r2 r' =>
          cases r'; cases r; cases r1; cases r2
          refine ⟨i, j, -1, (i - j).toNat, rfl, RgC.neg (by omega) (by omega) (by omega) (by omega), ?_⟩
          refine hR _ P1 G1 H1 _ gr g1 ⟨?_, fun k P2 G2 H2 ex g2 => ⟨fun hk => ?_, fun hk => ?_⟩⟩ hq
          · simp only [downs, List.length_map, List.length_range]; omega
          · simp only [downs, List.length_map, List.length_range] at hk
            refine ⟨hk, fun v H3 hy => ?_⟩
            obtain ⟨rfl, rfl⟩ := hy
            refine ⟨G2, .int (i + (k : Nat) * (-1)), .refl, g2, ?_, .int⟩
            rw [downs, List.getElem?_map, List.getElem?_range hk]
            simp
            omega
          · simp only [downs, List.length_map, List.length_range] at hk
            show (i - j).toNat ≤ k
            omega
  · exact hq.elim
theorem S_dct (i : Nat) {x : Str} {p2 pd : Pos} (hN : X.N.Nodup) (hi : X.N[i]? = some x := by rfl) (hx : Loc X.env.scope x := by first | exact Or.inl rfl | exact Or.inr rfl) (hs : swapsWith (.Dict [] [] pd) (some (.Name x p2)) pos.line X.env = pure false := by rfl) (hfn : X.fn x = true ∨ X.env.scope.names.lookup x = some .local := by first | exact Or.inl rfl | exact Or.inr rfl) : D1 κ X (.Assign [.Name x p2] (.Dict [] [] pd) pos) (sDct i) := d1_dct i hN hi hx hs hfn
theorem S_setD (i : Nat) {x : Str} {p2 p3 : Pos} {k : Expr} {r : Nat} (hr : Room r X.A) (hva : DE κ X e fa) (hk : DE κ X k fb) (hN : X.N[i]? = some x := by rfl) (hv : Vis X.env.scope x := by first | exact Or.inl rfl | exact Or.inr (Or.inl rfl) | exact Or.inr (Or.inr rfl)) (hs : swapsWith e (some (.Subscript (.Name x p2) k p3)) pos.line X.env = pure false := by rfl)
    (hd : (x == ("__debug__" : Str)) = false := by decide) (hcd : (x == ("__classdict__" : Str)) = false := by decide) : D1 κ X (.Assign [.Subscript (.Name x p2) k p3] e pos) (sSetD i fa fb) := d1_setD i (hu_of hr) hN hv hva hk hs hd hcd
theorem S_setDV (i : Nat) {x : Str} {p2 p3 : Pos} {k : Expr} {r : Nat} (hr : Room r X.A) (hva : DE κ X e fa) (hk : DE κ X k fb) (hN : X.N[i]? = some x := by rfl) (hv : Vis X.env.scope x := by first | exact Or.inl rfl | exact Or.inr (Or.inl rfl) | exact Or.inr (Or.inr rfl)) (hs : swapsWith e (some (.Subscript (.Name x p2) k p3)) pos.line X.env = pure false := by rfl)
    (hd : (x == ("__debug__" : Str)) = false := by decide) (hcd : (x == ("__classdict__" : Str)) = false := by decide) : D1 κ X (.Assign [.Subscript (.Name x p2) k p3] e pos) (sSetDV i fa fb) := d1_setDV i (hu_of hr) hN hv hva hk hs hd hcd
/-- {} as one of several -/
@[simp] def xDct : FX := fun _ n Q => Q (.ownd [] []) n
theorem dx_dct {pd : Pos} : DX κ X (.Dict [] [] pd) xDct := ⟨_, pe_dnewK, fun P G H σ env Q R g ev hf hR p hp =>
  hR _ (.ownd [] []) P G _ (Grow.new hp) (g.new hp) ⟨p, rfl, [], [], upd_same, rfl, Nat.zero_le _, ⟨List.nodup_nil, fun _ h => nomatch h⟩, rfl, hp, g.gnone hp, g.inone hp, .nil⟩ hf⟩
/-- {} as a value -/
@[simp] def fDct0 : FE := fun _ n Q => Q (.dct [] []) n
theorem e_dct0 {pd : Pos} : DE κ X (.Dict [] [] pd) fDct0 := ⟨_, pe_dnewK, fun P G H σ env Q R g ev hf hR p hp =>
  hR _ P (upd G p (.dK [])) _ _ ((Grow.new hp).frz hp (g.gnone hp)) ((g.new hp).frz (g.gnone hp) (g.inone hp) upd_same) (.dctK (ks := []) (us := []) upd_same rfl (Nat.zero_le _) ⟨List.nodup_nil, fun _ h => nomatch h⟩ .nil) hf⟩
end
end DL

/-! ## DL20 -/
/-! DL20: comprehensions with two fors -/
namespace DL
open PySem PySem.Spec PyProof.Rows L2
section
variable {κ : Kit} {X : Cx} {a b c e o tg : Expr} {es : List Expr} {fa fb fc f : FE} {far far1 : FA} {pos : Pos} {t1 t2 : FT}
def tI (κ : Kit) (f : FA) : TI := fun σ H R => ∃ (P : Wd) (G : Hp) (env : DEnv) (Q : List D → Nat → Prop), Good κ P G H ∧ EnvR κ G P.iv σ env ∧ f env P.n Q ∧ LkI κ P G H Q R
theorem DI0.can {Y : Cx} {iter : Expr} (h : DI0 κ Y tg iter far) : PI Y tg iter (tI κ far) := by
  obtain ⟨w, p, q⟩ := h
  refine ⟨fun pins s σ H R I hw => ?_⟩
  obtain ⟨P, G, env, Q, g, ev, hf, hR⟩ := hw
  exact p.run pins s σ H R I (q P G H σ env Q R g ev hf hR)
theorem rd_tI : RdI κ far (tI κ far) := fun P G H σ env Q R g ev hf hR => ⟨P, G, env, Q, g, ev, hf, hR⟩
def go2 (tg : FG) (tt : FT) (it1 : FA) (tg1 : FG) (tt1 : FT) (te : FE) (vs1 : List Nat) (env : DEnv) : List D → Nat → Nat → (List D → Nat → Prop) → Prop
  | [], _, n, Q => Q [] n
  | x :: xs, k, n, Q => tg x env fun env1 => tt env1 n fun b n1 => if b = true then it1 env1 n1 fun ys n2 => k + ys.length ≤ 16777216 ∧ goD tg1 tt1 te (wipeE env1 vs1) ys n2 fun zs n3 => go2 tg tt it1 tg1 tt1 te vs1 env xs (k + zs.length) n3 fun ws n4 => Q (zs ++ ws) n4 else go2 tg tt it1 tg1 tt1 te vs1 env xs k n1 Q
@[simp] def oComp2 (it : FA) (tg : FG) (tt : FT) (it1 : FA) (tg1 : FG) (tt1 : FT) (te : FE) (vs vs1 : List Nat) : FA := fun env n Q => it env n fun xs n1 => go2 tg tt it1 tg1 tt1 te vs1 (wipeE env vs) xs 0 n1 Q
abbrev Acc (κ : Kit) (P0 : Wd) (G0 H0 : Hp) (D : Addr) (acc : List V) (accD : List DL.D) (P : Wd) (G H : Hp) : Prop := Grow P0 G0 H0 P G H ∧ Good κ P G H ∧ G D = none ∧ P.iv D = none ∧ H D = some (.lst acc) ∧ Reps κ G P.iv acc accD
theorem Acc.step {P0 P P1 : Wd} {G0 H0 G H G1 H1 : Hp} {D : Addr} {acc : List V} {accD : List DL.D} (a : Acc κ P0 G0 H0 D acc accD P G H) (gr : Grow P G H P1 G1 H1) (g1 : Good κ P1 G1 H1) : Acc κ P0 G0 H0 D acc accD P1 G1 H1 := by
  obtain ⟨a1, a2, a3, a4, a5, a6⟩ := a
  obtain ⟨f1, f2, f3⟩ := gr.fresh D _ a5
  exact ⟨a1.trans gr, g1, by rw [f3]; exact a3, by rw [f1]; exact a4, gr.h D _ a5 a4, gr.reps a6⟩
theorem lc2_lift {w w1 : TI} {g g1 : TG} {tt tt1 : TT} {te : TE} {vs vs1 sl sl1 : List Nat} {φ φ1 : FG} (hi : RdI κ far w) (hg : LiftG κ g sl φ) (ht : RdT κ t1 tt) (hi1 : RdI κ far1 w1) (hg1 : LiftG κ g1 sl1 φ1) (ht1 : RdT κ t2 tt1) (he : RdE κ f te) (hsl : ∀ i ∈ sl, i ∈ vs) (hsl1 : ∀ i ∈ sl1, i ∈ vs1) :
    RdO κ (oComp2 far φ t1 far1 φ1 t2 f vs vs1) (tLc2 w g tt w1 g1 tt1 te vs vs1) := by
  intro P G H σ env Q R good ev hf hR
  refine hi P G H σ env _ _ good ev hf fun J Pb Gb Hb xs gr0 gb it hq => ?_
  intro Dl hD
  have hzl := it.1
  have hsz : sizeLine = 16777216 := PySem.sizeLine_eq
  refine ⟨fun i m H' => ∃ P' G' acc accD, Acc κ Pb Gb Hb Dl acc accD P' G' H' ∧ i ≤ xs.length ∧ m = xs.length - i ∧ acc.length ≤ 16777216 ∧
    go2 φ t1 far1 φ1 t2 f vs1 (wipeE env vs) (xs.drop i) accD.length P'.n (fun ys k => Q (accD ++ ys) k), ⟨xs.length, Pb, Gb, [], [], ⟨Grow.new hD, gb.new hD, gb.gnone hD, gb.inone hD, upd_same, .nil⟩, Nat.zero_le _, rfl, Nat.zero_le _, hq⟩, ?_⟩
  rintro i m H' ⟨P', G', acc, accD, ac, hix, rfl, hal, hgo⟩
  have gr := ac.1
  have evb := (ev.grow gr0).grow gr
  by_cases hlt : i < xs.length
  · obtain ⟨go, yl⟩ := (it.2 i P' G' H' gr.ext ac.2.1).1 hlt
    refine .inr ⟨go, fun H2 => ∃ P2 G2 acc2 accD2, Acc κ Pb Gb Hb Dl acc2 accD2 P2 G2 H2 ∧ acc2.length ≤ 16777216 ∧
      go2 φ t1 far1 φ1 t2 f vs1 (wipeE env vs) (xs.drop (i + 1)) accD2.length P2.n (fun ys k => Q (accD2 ++ ys) k), fun H2 hN => ?_, fun v H2 hy => ?_⟩
    · obtain ⟨P2, G2, acc2, accD2, q1, q2, q3⟩ := hN
      exact ⟨xs.length - (i + 1), by omega, P2, G2, acc2, accD2, q1, hlt, rfl, q2, q3⟩
    · obtain ⟨G2, d, gr2, g2, hxd, rd⟩ := yl v H2 hy
      have hdrop : xs.drop i = d :: xs.drop (i + 1) := by
        rw [List.drop_eq_getElem_cons hlt]
        rw [List.getElem?_eq_getElem hlt] at hxd
        cases hxd; rfl
      rw [hdrop] at hgo
      have evw : EnvR κ G2 P'.iv (L2.wipe σ vs) (wipeE env vs) := (evb.grow gr2).wipe vs
      have ac2 := ac.step gr2 g2
      refine hg P' G2 H2 v d (L2.wipe σ vs) (wipeE env vs) _ _ g2 evw rd hgo fun σ' env' ev' hw hf1 => ?_
      refine ⟨by rw [hw vs hsl]; exact wipe_wipe σ vs, ?_⟩
      refine ht P' G2 H2 σ' env' _ _ g2 ev' hf1 fun b P3 G3 H3 gr3 g3 hf2 => ?_
      have ac3 := ac2.step gr3 g3
      cases b with
      | false => exact ⟨P3, G3, acc, accD, ac3, hal, hf2⟩
      | true =>
        refine hi1 P3 G3 H3 σ' env' _ _ g3 (ev'.grow gr3) hf2 fun J1 P4 G4 H4 ys gr4 g4 it1 hf3 => ?_
        have ac4 := ac3.step gr4 g4
        have ev4 := (ev'.grow gr3).grow gr4
        obtain ⟨hyl, hf3⟩ := hf3
        have hacl : acc.length = accD.length := ac.2.2.2.2.2.length
        refine ⟨fun j k H5 => ∃ P5 G5 acc5 accD5, Acc κ Pb Gb Hb Dl acc5 (accD ++ accD5) P5 G5 H5 ∧ Ext P4 G4 P5 G5 ∧ EnvR κ G5 P5.iv σ' env' ∧ j ≤ ys.length ∧ k = ys.length - j ∧ accD5.length ≤ j ∧
          goD φ1 t2 f (wipeE env' vs1) (ys.drop j) P5.n (fun zs n3 => go2 φ t1 far1 φ1 t2 f vs1 (wipeE env vs) (xs.drop (i + 1)) (accD.length + (accD5 ++ zs).length) n3 fun ws n4 => Q (accD ++ ((accD5 ++ zs) ++ ws)) n4),
          ⟨ys.length, P4, G4, acc, [], by simpa using ac4, .refl, ev4, Nat.zero_le _, rfl, Nat.zero_le _, by simpa using hf3⟩, ?_⟩
        rintro j k H5 ⟨P5, G5, acc5, accD5, ac5, ex5, ev5, hjx, rfl, hal5, hgo5⟩
        have hl5 : acc5.length = accD.length + accD5.length := by rw [ac5.2.2.2.2.2.length, List.length_append]
        by_cases hjt : j < ys.length
        · obtain ⟨go1, yl1⟩ := (it1.2 j P5 G5 H5 ex5 ac5.2.1).1 hjt
          refine .inr ⟨go1, fun H6 => ∃ P6 G6 acc6 accD6, Acc κ Pb Gb Hb Dl acc6 (accD ++ accD6) P6 G6 H6 ∧ Ext P4 G4 P6 G6 ∧ EnvR κ G6 P6.iv σ' env' ∧ accD6.length ≤ j + 1 ∧
            goD φ1 t2 f (wipeE env' vs1) (ys.drop (j + 1)) P6.n (fun zs n3 => go2 φ t1 far1 φ1 t2 f vs1 (wipeE env vs) (xs.drop (i + 1)) (accD.length + (accD6 ++ zs).length) n3 fun ws n4 => Q (accD ++ ((accD6 ++ zs) ++ ws)) n4), fun H6 hN => ?_, fun v1 H6 hy1 => ?_⟩
          · obtain ⟨P6, G6, acc6, accD6, q1, q2, q3, q4, q5⟩ := hN
            exact ⟨ys.length - (j + 1), by omega, P6, G6, acc6, accD6, q1, q2, q3, hjt, rfl, q4, q5⟩
          · obtain ⟨G6, d1, gr6, g6, hyd, rd1⟩ := yl1 v1 H6 hy1
            have hdrop1 : ys.drop j = d1 :: ys.drop (j + 1) := by
              rw [List.drop_eq_getElem_cons hjt]
              rw [List.getElem?_eq_getElem hjt] at hyd
              cases hyd; rfl
            rw [hdrop1] at hgo5
            have ev6 := ev5.grow gr6
            have ac6 := ac5.step gr6 g6
            refine hg1 P5 G6 H6 v1 d1 (L2.wipe σ' vs1) (wipeE env' vs1) _ _ g6 (ev6.wipe vs1) rd1 hgo5 fun σ7 env7 ev7 hw7 hf7 => ?_
            refine ⟨by rw [hw7 vs1 hsl1]; exact wipe_wipe σ' vs1, ?_⟩
            refine ht1 P5 G6 H6 σ7 env7 _ _ g6 ev7 hf7 fun b8 P8 G8 H8 gr8 g8 hf8 => ?_
            have ac8 := ac6.step gr8 g8
            have ex8 := (ex5.trans gr6.ext).trans gr8.ext
            cases b8 with
            | false => exact ⟨P8, G8, acc5, accD5, ac8, ex8, ev6.grow gr8, Nat.le_succ_of_le hal5, hf8⟩
            | true =>
              refine he P8 G8 H8 σ7 env7 _ _ g8 (ev7.grow gr8) hf8 fun y P9 G9 H9 dy gr9 g9 ry hf9 => ?_
              have ac9 := ac8.step gr9 g9
              obtain ⟨w1', w2', w3', w4', w5', w6'⟩ := ac9
              refine ⟨acc5, w5', by omega, P9, G9, acc5 ++ [y], accD5 ++ [dy], ⟨w1'.put hD, w2'.put w3' w4', w3', w4', upd_same, ?_⟩, ex8.trans gr9.ext, (ev6.grow gr8).grow gr9, by rw [List.length_append]; exact Nat.succ_le_succ hal5, ?_⟩
              · rw [← List.append_assoc]; exact w6'.append (.cons ry .nil)
              · simpa only [List.append_assoc, List.singleton_append] using hf9
        · have ej : j = ys.length := by omega
          subst ej
          rw [List.drop_length] at hgo5
          refine .inl ⟨(it1.2 _ P5 G5 H5 ex5 ac5.2.1).2 rfl, P5, G5, acc5, accD ++ accD5, ac5, by omega, ?_⟩
          have hgo6 : go2 φ t1 far1 φ1 t2 f vs1 (wipeE env vs) (xs.drop (i + 1)) (accD.length + (accD5 ++ []).length) P5.n fun ws n4 => Q (accD ++ ((accD5 ++ []) ++ ws)) n4 := by simpa only [goD] using hgo5
          simpa [List.append_assoc] using hgo6
  · have e : i = xs.length := by omega
    subst e
    refine .inl ⟨(it.2 _ P' G' H' gr.ext ac.2.1).2 rfl, ?_⟩
    rw [List.drop_length] at hgo
    have hq' : Q accD P'.n := by
      have : Q (accD ++ []) P'.n := hgo
      simpa using this
    exact hR Dl P' G' H' acc accD (gr0.trans gr) ac.2.1 (gr0.back hD) ac.2.2.1 ac.2.2.2.1 ac.2.2.2.2.1 (by omega) ac.2.2.2.2.2 hq'
variable {iter iter1 tg1 elt : Expr} {ifs ifs1 : List Expr} {scope : Scope} {sl sl1 vs1 : List Nat} {φ φ1 : FG}
theorem o_comp2 (own : List (Str × Nat)) (vs1 : List Nat) (hN : X.N.Nodup) (hi : DI0 κ X tg iter far)
    (hg : ∀ (s : Shared) (H : Hp) (C : Addr) (cl : List (Str × Addr)) (fp : List Addr), DG κ (X.blk s H scope (compEnvC scope cl C X.env) fp) tg sl φ)
    (ht : ∀ (s : Shared) (H : Hp) (C : Addr) (cl : List (Str × Addr)) (fp : List Addr), DTs κ (X.blk s H scope (compEnvC scope cl C X.env) fp) ifs t1)
    (hi1 : ∀ (s : Shared) (H : Hp) (C : Addr) (cl : List (Str × Addr)) (fp : List Addr), DI0 κ (X.blk s H scope (compEnvC scope cl C X.env) fp) tg1 iter1 far1)
    (hg1 : ∀ (s : Shared) (H : Hp) (C : Addr) (cl : List (Str × Addr)) (fp : List Addr), DG κ (X.blk s H scope (compEnvC scope cl C X.env) fp) tg1 sl1 φ1)
    (ht1 : ∀ (s : Shared) (H : Hp) (C : Addr) (cl : List (Str × Addr)) (fp : List Addr), DTs κ (X.blk s H scope (compEnvC scope cl C X.env) fp) ifs1 t2)
    (he : ∀ (s : Shared) (H : Hp) (C : Addr) (cl : List (Str × Addr)) (fp : List Addr), DE κ (X.blk s H scope (compEnvC scope cl C X.env) fp) elt f)
    (ok : blkC X.N X.env.scope scope own = true := by rfl) (hc : X.calm = true := by rfl) (hsl : ∀ i ∈ sl, i ∈ own.map (·.2) := by decide) (hsl1 : ∀ i ∈ sl1, i ∈ vs1 := by decide) (hv : ∀ i ∈ vs1, i ∈ own.map (·.2) := by decide) (hs : ∀ x, foldedSetIterable iter X.env x = pure x := by intro _; rfl) (hs1 : ∀ env x, foldedSetIterable iter1 env x = pure x := by intro _ _; rfl) : DO κ X (.ListComp elt [⟨tg, iter, ifs, 0⟩, ⟨tg1, iter1, ifs1, 0⟩] scope pos) (oComp2 far φ t1 far1 φ1 t2 f (own.map (·.2)) vs1) := by
  obtain ⟨w, pw, qw⟩ := hi
  exact ⟨_, pe_lc2 hc hN pw (blkOk_by ok) hv (fun s H C cl fp => (hg s H C cl fp).can) (fun s H C cl fp => (ht s H C cl fp).can) (fun s H C cl fp => (hi1 s H C cl fp).can) (fun s H C cl fp => (hg1 s H C cl fp).can) (fun s H C cl fp => (ht1 s H C cl fp).can) (fun s H C cl fp => (he s H C cl fp).can) hs hs1, lc2_lift qw rd_tG rd_tT rd_tI rd_tG rd_tT rd_tE hsl hsl1⟩
theorem S_lc2 (i : Nat) {y : Str} {py spos : Pos} (own : List (Str × Nat)) (vs1 : List Nat) (hN : X.N.Nodup) (hi : DI0 κ X tg iter far)
    (hg : ∀ (s : Shared) (H : Hp) (C : Addr) (cl : List (Str × Addr)) (fp : List Addr), DG κ (X.blk s H scope (compEnvC scope cl C X.env) fp) tg sl φ)
    (ht : ∀ (s : Shared) (H : Hp) (C : Addr) (cl : List (Str × Addr)) (fp : List Addr), DTs κ (X.blk s H scope (compEnvC scope cl C X.env) fp) ifs t1)
    (hi1 : ∀ (s : Shared) (H : Hp) (C : Addr) (cl : List (Str × Addr)) (fp : List Addr), DI0 κ (X.blk s H scope (compEnvC scope cl C X.env) fp) tg1 iter1 far1)
    (hg1 : ∀ (s : Shared) (H : Hp) (C : Addr) (cl : List (Str × Addr)) (fp : List Addr), DG κ (X.blk s H scope (compEnvC scope cl C X.env) fp) tg1 sl1 φ1)
    (ht1 : ∀ (s : Shared) (H : Hp) (C : Addr) (cl : List (Str × Addr)) (fp : List Addr), DTs κ (X.blk s H scope (compEnvC scope cl C X.env) fp) ifs1 t2)
    (he : ∀ (s : Shared) (H : Hp) (C : Addr) (cl : List (Str × Addr)) (fp : List Addr), DE κ (X.blk s H scope (compEnvC scope cl C X.env) fp) elt f)
    (hy : X.N[i]? = some y := by rfl) (hyl : X.env.scope.names.lookup y = some .local := by rfl)
    (hsw : swapsWith (.ListComp elt [⟨tg, iter, ifs, 0⟩, ⟨tg1, iter1, ifs1, 0⟩] scope pos) (some (.Name y py)) spos.line X.env = pure true := by exact sw_true rfl rfl rfl (by decide +kernel)) (ok : blkC X.N X.env.scope scope own = true := by rfl) (hc : X.calm = true := by rfl) (hsl : ∀ i ∈ sl, i ∈ own.map (·.2) := by decide) (hsl1 : ∀ i ∈ sl1, i ∈ vs1 := by decide) (hv : ∀ i ∈ vs1, i ∈ own.map (·.2) := by decide) (hs : ∀ x, foldedSetIterable iter X.env x = pure x := by intro _; rfl) (hs1 : ∀ env x, foldedSetIterable iter1 env x = pure x := by intro _ _; rfl) : D1 κ X (.Assign [.Name y py] (.ListComp elt [⟨tg, iter, ifs, 0⟩, ⟨tg1, iter1, ifs1, 0⟩] scope pos) spos) (sAsgO i (oComp2 far φ t1 far1 φ1 t2 f (own.map (·.2)) vs1)) := by
  obtain ⟨w, pw, qw⟩ := hi
  exact ⟨_, ps_setLc2 hc hN hy hyl hsw pw (blkOk_by ok) hv (fun s H C cl fp => (hg s H C cl fp).can) (fun s H C cl fp => (ht s H C cl fp).can) (fun s H C cl fp => (hi1 s H C cl fp).can) (fun s H C cl fp => (hg1 s H C cl fp).can) (fun s H C cl fp => (ht1 s H C cl fp).can) (fun s H C cl fp => (he s H C cl fp).can) hs hs1, asgO_lift (lc2_lift qw rd_tG rd_tT rd_tI rd_tG rd_tT rd_tE hsl hsl1)⟩
theorem S_lc2V (i : Nat) {y : Str} {py spos : Pos} (own : List (Str × Nat)) (vs1 : List Nat) (hN : X.N.Nodup) (hi : DI0 κ X tg iter far)
    (hg : ∀ (s : Shared) (H : Hp) (C : Addr) (cl : List (Str × Addr)) (fp : List Addr), DG κ (X.blk s H scope (compEnvC scope cl C X.env) fp) tg sl φ)
    (ht : ∀ (s : Shared) (H : Hp) (C : Addr) (cl : List (Str × Addr)) (fp : List Addr), DTs κ (X.blk s H scope (compEnvC scope cl C X.env) fp) ifs t1)
    (hi1 : ∀ (s : Shared) (H : Hp) (C : Addr) (cl : List (Str × Addr)) (fp : List Addr), DI0 κ (X.blk s H scope (compEnvC scope cl C X.env) fp) tg1 iter1 far1)
    (hg1 : ∀ (s : Shared) (H : Hp) (C : Addr) (cl : List (Str × Addr)) (fp : List Addr), DG κ (X.blk s H scope (compEnvC scope cl C X.env) fp) tg1 sl1 φ1)
    (ht1 : ∀ (s : Shared) (H : Hp) (C : Addr) (cl : List (Str × Addr)) (fp : List Addr), DTs κ (X.blk s H scope (compEnvC scope cl C X.env) fp) ifs1 t2)
    (he : ∀ (s : Shared) (H : Hp) (C : Addr) (cl : List (Str × Addr)) (fp : List Addr), DE κ (X.blk s H scope (compEnvC scope cl C X.env) fp) elt f)
    (hy : X.N[i]? = some y := by rfl) (hyl : X.env.scope.names.lookup y = some .local := by rfl)
    (hsw : swapsWith (.ListComp elt [⟨tg, iter, ifs, 0⟩, ⟨tg1, iter1, ifs1, 0⟩] scope pos) (some (.Name y py)) spos.line X.env = pure true := by exact sw_true rfl rfl rfl (by decide +kernel)) (ok : blkC X.N X.env.scope scope own = true := by rfl) (hc : X.calm = true := by rfl) (hsl : ∀ i ∈ sl, i ∈ own.map (·.2) := by decide) (hsl1 : ∀ i ∈ sl1, i ∈ vs1 := by decide) (hv : ∀ i ∈ vs1, i ∈ own.map (·.2) := by decide) (hs : ∀ x, foldedSetIterable iter X.env x = pure x := by intro _; rfl) (hs1 : ∀ env x, foldedSetIterable iter1 env x = pure x := by intro _ _; rfl) : D1 κ X (.Assign [.Name y py] (.ListComp elt [⟨tg, iter, ifs, 0⟩, ⟨tg1, iter1, ifs1, 0⟩] scope pos) spos) (sAsgOV i (oComp2 far φ t1 far1 φ1 t2 f (own.map (·.2)) vs1)) := by
  obtain ⟨w, pw, qw⟩ := hi
  exact ⟨_, ps_setLc2 hc hN hy hyl hsw pw (blkOk_by ok) hv (fun s H C cl fp => (hg s H C cl fp).can) (fun s H C cl fp => (ht s H C cl fp).can) (fun s H C cl fp => (hi1 s H C cl fp).can) (fun s H C cl fp => (hg1 s H C cl fp).can) (fun s H C cl fp => (ht1 s H C cl fp).can) (fun s H C cl fp => (he s H C cl fp).can) hs hs1, asgOV_lift (lc2_lift qw rd_tG rd_tT rd_tI rd_tG rd_tT rd_tE hsl hsl1)⟩
theorem S_lc2F (i : Nat) {y : Str} {py spos : Pos} (own : List (Str × Nat)) (vs1 : List Nat) (hN : X.N.Nodup) (hi : DI0 κ X tg iter far)
    (hg : ∀ (s : Shared) (H : Hp) (C : Addr) (cl : List (Str × Addr)) (fp : List Addr), DG κ (X.blk s H scope (compEnvC scope cl C X.env) fp) tg sl φ)
    (ht : ∀ (s : Shared) (H : Hp) (C : Addr) (cl : List (Str × Addr)) (fp : List Addr), DTs κ (X.blk s H scope (compEnvC scope cl C X.env) fp) ifs t1)
    (hi1 : ∀ (s : Shared) (H : Hp) (C : Addr) (cl : List (Str × Addr)) (fp : List Addr), DI0 κ (X.blk s H scope (compEnvC scope cl C X.env) fp) tg1 iter1 far1)
    (hg1 : ∀ (s : Shared) (H : Hp) (C : Addr) (cl : List (Str × Addr)) (fp : List Addr), DG κ (X.blk s H scope (compEnvC scope cl C X.env) fp) tg1 sl1 φ1)
    (ht1 : ∀ (s : Shared) (H : Hp) (C : Addr) (cl : List (Str × Addr)) (fp : List Addr), DTs κ (X.blk s H scope (compEnvC scope cl C X.env) fp) ifs1 t2)
    (he : ∀ (s : Shared) (H : Hp) (C : Addr) (cl : List (Str × Addr)) (fp : List Addr), DE κ (X.blk s H scope (compEnvC scope cl C X.env) fp) elt f)
    (hy : X.N[i]? = some y := by rfl) (hyl : X.env.scope.names.lookup y = some .local := by rfl)
    (hsw : swapsWith (.ListComp elt [⟨tg, iter, ifs, 0⟩, ⟨tg1, iter1, ifs1, 0⟩] scope pos) (some (.Name y py)) spos.line X.env = pure true := by exact sw_true rfl rfl rfl (by decide +kernel)) (ok : blkC X.N X.env.scope scope own = true := by rfl) (hc : X.calm = true := by rfl) (hsl : ∀ i ∈ sl, i ∈ own.map (·.2) := by decide) (hsl1 : ∀ i ∈ sl1, i ∈ vs1 := by decide) (hv : ∀ i ∈ vs1, i ∈ own.map (·.2) := by decide) (hs : ∀ x, foldedSetIterable iter X.env x = pure x := by intro _; rfl) (hs1 : ∀ env x, foldedSetIterable iter1 env x = pure x := by intro _ _; rfl) : D1 κ X (.Assign [.Name y py] (.ListComp elt [⟨tg, iter, ifs, 0⟩, ⟨tg1, iter1, ifs1, 0⟩] scope pos) spos) (sAsg i (fFrz (oComp2 far φ t1 far1 φ1 t2 f (own.map (·.2)) vs1))) := by
  obtain ⟨w, pw, qw⟩ := hi
  exact ⟨_, ps_setLc2 hc hN hy hyl hsw pw (blkOk_by ok) hv (fun s H C cl fp => (hg s H C cl fp).can) (fun s H C cl fp => (ht s H C cl fp).can) (fun s H C cl fp => (hi1 s H C cl fp).can) (fun s H C cl fp => (hg1 s H C cl fp).can) (fun s H C cl fp => (ht1 s H C cl fp).can) (fun s H C cl fp => (he s H C cl fp).can) hs hs1, asg_lift (DO.rdfr (lc2_lift qw rd_tG rd_tT rd_tI rd_tG rd_tT rd_tE hsl hsl1))⟩
theorem i0_seq (ha : DE κ X e f) : DI0 κ X tg e (iSeq f) := di_seq ha
theorem i0_r1 {p : Pos} (hm : X.mg "range" = none) (ha : DE κ X a fa) (hg : Gl X "range" := by rfl) (hs : starEach [a] X.env = [(false, eval a X.env)] := by rfl) : DI0 κ X tg (.Call (.Name "range" p) [a] [] pos) (iRange1 (aCons fa aNil)) := di_range1 hg hm (da_one ha hs) hs
theorem i0_r2 {p : Pos} (hm : X.mg "range" = none) (ha : DE κ X a fa) (hb : DE κ X b fb) (hg : Gl X "range" := by rfl) (hs : starEach [a, b] X.env = [(false, eval a X.env), (false, eval b X.env)] := by rfl) (hs2 : starEach [b] X.env = [(false, eval b X.env)] := by rfl) (hs3 : starEach [a, b] X.env = (false, eval a X.env) :: starEach [b] X.env := by rfl) : DI0 κ X tg (.Call (.Name "range" p) [a, b] [] pos) (iRange2 (aCons fa (aCons fb aNil))) := di_range2 hg hm (da_cons ha (da_one hb hs2) hs3) hs hs2
end
end DL

/-! ## DLw -/
/-! DLw: operations, case by case -/
namespace DL
open PySem PySem.Spec PyProof.Rows L2
section
variable {n : Nat} {Q : D → Nat → Prop} {R : List D → Nat → Prop} {i j : Int} {s t : List Nat} {xs ys ks vs ds : List D} {x y k : D} {b : Bool} {ns : List Int} {lo hi : Option Int}
@[simp] theorem w_add1 : gAdd (.int i) (.int j) n Q = Q (.int (i + j)) n := rfl
@[simp] theorem w_add2 : gAdd (.str s) (.str t) n Q = (s.length + t.length ≤ sizeLine ∧ Q (.str (s ++ t)) n) := rfl
@[simp] theorem w_add3 : gAdd3 (.int i) (.int j) n Q = Q (.int (i + j)) n := rfl
@[simp] theorem w_add4 : gAdd3 (.str s) (.str t) n Q = (s.length + t.length ≤ 16777216 ∧ Q (.str (s ++ t)) n) := rfl
@[simp] theorem w_add5 : gAdd3 (.lst xs) (.lst ys) n Q = (xs.length + ys.length ≤ 16777216 ∧ Q (.lst (xs ++ ys)) n) := rfl
@[simp] theorem w_add6 : gAdd3 (.tup xs) (.tup ys) n Q = (xs.length + ys.length ≤ 16777216 ∧ Q (.tup (xs ++ ys)) n) := rfl
@[simp] theorem w_sub : gSub (.int i) (.int j) n Q = Q (.int (i - j)) n := rfl
@[simp] theorem w_oadd : oAdd (.lst xs) (.lst ys) n R = (xs.length + ys.length ≤ sizeLine ∧ R (xs ++ ys) n) := rfl
@[simp] theorem w_mul1 : gMul (.int i) (.int j) n Q = (MulOk i j ∧ Q (.int (i * j)) n) := rfl
@[simp] theorem w_mul2 : gMul (.str s) (.int i) n Q = ((i < 4611686018427387904 ∧ -4611686018427387904 < i ∧ s.length * i.toNat ≤ sizeLine) ∧ Q (.str (List.replicate i.toNat s).flatten) n) := rfl
@[simp] theorem w_div : gDiv (.int i) (.int j) n Q = (DivOk j ∧ Q (.int (i / j)) n) := rfl
@[simp] theorem w_mod : gMod (.int i) (.int j) n Q = (0 < j ∧ Q (.int (i % j)) n) := rfl
@[simp] theorem w_pow : gPow (.int i) (.int j) n Q = (CPowW i j ∧ Q (.int (i ^ j.toNat)) n) := rfl
@[simp] theorem w_neg : gNeg (.int i) n Q = Q (.int (-i)) n := rfl
@[simp] theorem w_lt1 : gLt (.int i) (.int j) n Q = Q (.bl (decide (i < j))) n := rfl
@[simp] theorem w_lt2 : gLt (.str s) (.str t) n Q = Q (.bl (decide (s < t))) n := rfl
@[simp] theorem w_le1 : gLe (.int i) (.int j) n Q = Q (.bl (decide (i ≤ j))) n := rfl
@[simp] theorem w_le2 : gLe (.str s) (.str t) n Q = Q (.bl (!decide (t < s))) n := rfl
@[simp] theorem w_in1 : gIn x (.lst ys) n Q = ((flatD x = true ∧ ys.all flatD = true) ∧ Q (.bl (ys.any fun y => eqD y x)) n) := rfl
@[simp] theorem w_in2 : gIn x (.tup ys) n Q = ((flatD x = true ∧ ys.all flatD = true) ∧ Q (.bl (ys.any fun y => eqD y x)) n) := rfl
@[simp] theorem w_in3 : gIn x (.str t) n Q = (∃ c, x = .str [c] ∧ Q (.bl (decide (c ∈ t))) n) := rfl
@[simp] theorem w_in4 : gIn x (.dct ks vs) n Q = (isKeyD x = true ∧ Q (.bl (dGet ks vs x).isSome) n) := rfl
@[simp] theorem w_in5 : gIn x (.dcu ks vs) n Q = (dKind (.dcu ks vs) x = true ∧ Q (.bl (dGet ks vs x).isSome) n) := rfl
@[simp] theorem w_len1 : gLen [.str s] n Q = Q (.int s.length) n := rfl
@[simp] theorem w_len2 : gLen [.lst xs] n Q = Q (.int xs.length) n := rfl
@[simp] theorem w_len3 : gLen [.tup xs] n Q = Q (.int xs.length) n := rfl
@[simp] theorem w_len4 : gLen [.dct ks vs] n Q = Q (.int ks.length) n := rfl
@[simp] theorem w_len5 : gLen [.scr ns] n Q = Q (.int ns.length) n := rfl
@[simp] theorem w_min1 : gMin [.int i, .int j] n Q = Q (.int (min i j)) n := rfl
@[simp] theorem w_min2 : gMin [.lst xs] n Q = (∃ ns : List Int, [D.lst xs] = [.lst (ns.map D.int)] ∧ ns ≠ [] ∧ ∀ m, m ∈ ns → (∀ y ∈ ns, m ≤ y) → Q (.int m) n) := rfl
@[simp] theorem w_max1 : gMax [.int i, .int j] n Q = Q (.int (max i j)) n := rfl
@[simp] theorem w_max2 : gMax [.lst xs] n Q = (∃ ns : List Int, [D.lst xs] = [.lst (ns.map D.int)] ∧ ns ≠ [] ∧ ∀ m, m ∈ ns → (∀ y ∈ ns, y ≤ m) → Q (.int m) n) := rfl
@[simp] theorem w_abs : gAbs [.int i] n Q = Q (.int (i.natAbs : Int)) n := rfl
@[simp] theorem w_int1 : gInt [.int i] n Q = Q (.int i) n := rfl
@[simp] theorem w_int2 : gInt [.bl b] n Q = Q (.int (if b then 1 else 0)) n := rfl
@[simp] theorem w_list1 : oList [.str s] n R = R (s.map fun c => .str [c]) n := rfl
@[simp] theorem w_list2 : oList [.lst xs] n R = R xs n := rfl
@[simp] theorem w_list3 : oList [.tup xs] n R = R xs n := rfl
@[simp] theorem w_tuple1 : gTuple [.lst xs] n Q = Q (.tup xs) n := rfl
@[simp] theorem w_tuple2 : gTuple [.tup xs] n Q = Q (.tup xs) n := rfl
@[simp] theorem w_ix1 : gIx (.lst xs) (.int i) n Q = (∃ v, atI xs i = some v ∧ Q v n) := rfl
@[simp] theorem w_ix2 : gIx (.tup xs) (.int i) n Q = (∃ v, atI xs i = some v ∧ Q v n) := rfl
@[simp] theorem w_ix3 : gIx (.str s) (.int i) n Q = (∃ c, atI s i = some c ∧ Q (.str [c]) n) := rfl
@[simp] theorem w_ix4 : gIx (.dct ks vs) k n Q = (isKeyD k = true ∧ ∃ v, dGet ks vs k = some v ∧ Q v n) := by cases k <;> rfl
@[simp] theorem w_ix5 : gIx (.dcu ks vs) k n Q = (dKind (.dcu ks vs) k = true ∧ ∃ v, dGet ks vs k = some v ∧ Q v n) := by cases k <;> rfl
@[simp] theorem w_starts : gStarts (.str s) (.str t) n Q = Q (.bl (s.take t.length == t)) n := rfl
@[simp] theorem w_bits : gBits (.int i) n Q = Q (.int (Builtin.Int.intBits i : Nat)) n := rfl
@[simp] theorem w_sl1 : gSl (.str s) lo hi n Q = Q (.str (cutL s lo hi)) n := rfl
@[simp] theorem w_sl2 : gSl (.tup xs) lo hi n Q = (¬ (HT.sIx xs.length 0 lo = 0 ∧ HT.sIx xs.length xs.length hi = xs.length) ∧ Q (.tup (cutL xs lo hi)) n) := rfl
@[simp] theorem w_sl3 : gSl (.lst xs) lo hi n Q = Q (.lst (cutL xs lo hi)) n := rfl
@[simp] theorem w_sl4 : gSl (.scr ns) lo hi n Q = Q (.lst ((cutL ns lo hi).map D.int)) n := rfl
@[simp] theorem w_rev1 : gRev (.str s) n Q = Q (.str s.reverse) n := rfl
@[simp] theorem w_rev2 : gRev (.lst xs) n Q = Q (.lst xs.reverse) n := rfl
@[simp] theorem w_lr1 : gListR1 (.int j) n R = ((j ≤ 16777216 ∧ -2305843009213693952 < j) ∧ R (ups 0 j.toNat) n) := rfl
@[simp] theorem w_lr2 : gListR2 (.int i) (.int j) n R = ((j - i ≤ 16777216 ∧ -2305843009213693952 < i ∧ i < 2305843009213693952 ∧ -2305843009213693952 < j) ∧ R (ups i (j - i).toNat) n) := rfl
@[simp] theorem w_seq1 : gSeq (.lst xs) n R = R xs n := rfl
@[simp] theorem w_seq2 : gSeq (.tup xs) n R = R xs n := rfl
@[simp] theorem w_seq3 : gSeq (.str s) n R = R (s.map fun c => .str [c]) n := rfl
@[simp] theorem w_seqn1 : gSeqN (.lst xs) n R = R xs n := rfl
@[simp] theorem w_seqn2 : gSeqN (.tup xs) n R = R xs n := rfl
@[simp] theorem w_seqn3 : gSeqN (.str s) n R = R (s.map fun c => .str [c]) n := rfl
@[simp] theorem w_seqn4 : gSeqN (.dct ks vs) n R = R ks n := rfl
@[simp] theorem w_rg1 : gRange1 [.int j] n R = ((j ≤ 16777216 ∧ -2305843009213693952 < j) ∧ R (ups 0 j.toNat) n) := rfl
@[simp] theorem w_rg2 : gRange2 [.int i, .int j] n R = ((j - i ≤ 16777216 ∧ -2305843009213693952 < i ∧ i < 2305843009213693952 ∧ -2305843009213693952 < j) ∧ R (ups i (j - i).toNat) n) := rfl
@[simp] theorem w_enum : gEnumD [.lst xs] n R = R (enumD 0 xs) n := rfl
@[simp] theorem w_zip1 : gZipD [.lst xs, .lst ys] n R = R (zipD xs ys) n := rfl
@[simp] theorem w_zip2 : gZipD [.tup xs, .tup ys] n R = R (zipD xs ys) n := rfl
@[simp] theorem w_nsn {env : SEnv} {P : SEnv → Prop} : nsNil [] env P = P env := rfl
@[simp] theorem w_nsc {φ : SG} {ψ : SGs} {env : SEnv} {P : SEnv → Prop} : nsCons φ ψ (x :: xs) env P = φ x env fun env' => ψ xs env' P := rfl
@[simp] theorem w_nt {m : Nat} {ψ : SGs} {env : SEnv} {P : SEnv → Prop} : nT m ψ (.tup ds) env P = (ds.length = m ∧ ψ ds env P) := rfl
@[simp] theorem w_gsn {env : DEnv} {P : DEnv → Prop} : gsNil [] env P = P env := rfl
@[simp] theorem w_gsc {φ : FG} {ψ : FGs} {env : DEnv} {P : DEnv → Prop} : gsCons φ ψ (x :: xs) env P = φ x env fun env' => ψ xs env' P := rfl
@[simp] theorem w_gt {m : Nat} {ψ : FGs} {env : DEnv} {P : DEnv → Prop} : gT m ψ (.tup ds) env P = (ds.length = m ∧ ψ ds env P) := rfl
end
end DL

/-! ## Pre2 -/
/-! Pre: walking lists over data; the prelude that the laws share -/
namespace DL
open PySem L2
/-! ### rules for comprehensions and loops -/
/-- one item of a comprehension -/
def stepD (tg : FG) (tt : FT) (te : FE) (env : DEnv) (x : D) (n : Nat) (K : Option D → Nat → Prop) : Prop := tg x env fun env' => tt env' n fun b n1 => if b = true then te env' n1 fun y n2 => K (some y) n2 else K none n1
theorem goD_step {tg : FG} {tt : FT} {te : FE} {env : DEnv} {x : D} {xs : List D} {n : Nat} {Q : List D → Nat → Prop} (h : stepD tg tt te env x n fun o m => match o with | some y => goD tg tt te env xs m fun ys k => Q (y :: ys) k | none => goD tg tt te env xs m Q) : goD tg tt te env (x :: xs) n Q := h
/-- a comprehension whose items are reckoned without draws -/
theorem goD_pure {α : Type} {c : α → D} {tg : FG} {tt : FT} {te : FE} {env : DEnv} (r : α → Option D) : ∀ {xs : List α} {n : Nat} {Q : List D → Nat → Prop}, (∀ a ∈ xs, ∀ m K, K (r a) m → stepD tg tt te env (c a) m K) → Q (xs.filterMap r) n → goD tg tt te env (xs.map c) n Q
  | [], n, Q, _, h => h
  | a :: xs, n, Q, H, h => goD_step (H a (List.mem_cons_self ..) n _ (by
      cases e : r a with
      | none =>
        rw [List.filterMap_cons_none e] at h
        exact goD_pure r (fun b hb => H b (List.mem_cons_of_mem _ hb)) h
      | some y =>
        rw [List.filterMap_cons_some e] at h
        exact goD_pure r (Q := fun ys k => Q (y :: ys) k) (fun b hb => H b (List.mem_cons_of_mem _ hb)) h))
theorem goD_map {α : Type} {c : α → D} {tg : FG} {tt : FT} {te : FE} {env : DEnv} (r : α → D) {xs : List α} {n : Nat} {Q : List D → Nat → Prop} (H : ∀ a ∈ xs, ∀ m K, K (some (r a)) m → stepD tg tt te env (c a) m K) (h : Q (xs.map r) n) : goD tg tt te env (xs.map c) n Q :=
  goD_pure (fun a => some (r a)) H (by rw [show xs.filterMap (fun a => some (r a)) = xs.map r from by simp]; exact h)
theorem goD_filter {α : Type} {c : α → D} {tg : FG} {tt : FT} {te : FE} {env : DEnv} (p : α → Bool) (r : α → D) {xs : List α} {n : Nat} {Q : List D → Nat → Prop} (H : ∀ a ∈ xs, ∀ m K, (p a = true → K (some (r a)) m) → (p a = false → K none m) → stepD tg tt te env (c a) m K) (h : Q ((xs.filter p).map r) n) : goD tg tt te env (xs.map c) n Q := by
  refine goD_pure (fun a => if p a = true then some (r a) else none) (fun a ha m K hK => H a ha m K (fun e => by rw [if_pos e] at hK; exact hK) (fun e => by rw [if_neg (by rw [e]; decide)] at hK; exact hK)) ?_
  have : xs.filterMap (fun a => if p a = true then some (r a) else none) = (xs.filter p).map r := by
    clear H h
    induction xs with
    | nil => rfl
    | cons x xs ih =>
      by_cases e : p x = true
      · rw [List.filterMap_cons_some (by rw [if_pos e]), List.filter_cons_of_pos e, List.map_cons, ih]
      · rw [List.filterMap_cons_none (by rw [if_neg e]), List.filter_cons_of_neg e, ih]
  rw [this]; exact h
/-- a comprehension with draws: each item has P, at most c draws told each -/
theorem goD_draw {α : Type} {f : α → D} {tg : FG} {tt : FT} {te : FE} {env : DEnv} (c : Nat) (P : D → Prop) (B : Nat) : ∀ {xs : List α} {n : Nat} {Q : List D → Nat → Prop}, n + c * xs.length ≤ B → (∀ a ∈ xs, ∀ m K, m + c ≤ B → (∀ o k, m ≤ k → k ≤ m + c → (∀ y, o = some y → P y) → K o k) → stepD tg tt te env (f a) m K) →
    (∀ ys m, n ≤ m → m ≤ n + c * xs.length → (∀ y ∈ ys, P y) → ys.length ≤ xs.length → Q ys m) → goD tg tt te env (xs.map f) n Q
  | [], n, Q, hB, _, h => h [] n (Nat.le_refl _) (by simp) (fun _ h => nomatch h) (Nat.le_refl _)
  | a :: xs, n, Q, hB, H, h => by
    rw [List.length_cons, Nat.mul_succ] at hB
    refine goD_step (H a (List.mem_cons_self ..) n _ (by omega) fun o k h1 h2 hP => ?_)
    cases o with
    | none =>
      refine goD_draw c P B (by omega) (fun b hb => H b (List.mem_cons_of_mem _ hb)) fun ys m w1 w2 w3 w4 => h ys m (by omega) (by rw [List.length_cons, Nat.mul_succ]; omega) w3 (by rw [List.length_cons]; omega)
    | some y =>
      refine goD_draw c P B (by omega) (fun b hb => H b (List.mem_cons_of_mem _ hb)) fun ys m w1 w2 w3 w4 => h (y :: ys) m (by omega) (by rw [List.length_cons, Nat.mul_succ]; omega) (fun z hz => ?_) (by rw [List.length_cons, List.length_cons]; omega)
      rcases List.mem_cons.mp hz with rfl | hz
      · exact hP _ rfl
      · exact w3 z hz
/-- the same where each item gives one -/
theorem goD_draws {α : Type} {f : α → D} {tg : FG} {tt : FT} {te : FE} {env : DEnv} (c : Nat) (P : D → Prop) (B : Nat) : ∀ {xs : List α} {n : Nat} {Q : List D → Nat → Prop}, n + c * xs.length ≤ B → (∀ a ∈ xs, ∀ m K, m + c ≤ B → (∀ y k, m ≤ k → k ≤ m + c → P y → K (some y) k) → stepD tg tt te env (f a) m K) →
    (∀ ys m, n ≤ m → m ≤ n + c * xs.length → (∀ y ∈ ys, P y) → ys.length = xs.length → Q ys m) → goD tg tt te env (xs.map f) n Q
  | [], n, Q, hB, _, h => h [] n (Nat.le_refl _) (by simp) (fun _ h => nomatch h) rfl
  | a :: xs, n, Q, hB, H, h => by
    rw [List.length_cons, Nat.mul_succ] at hB
    refine goD_step (H a (List.mem_cons_self ..) n _ (by omega) fun y k h1 h2 hP => ?_)
    refine goD_draws c P B (by omega) (fun b hb => H b (List.mem_cons_of_mem _ hb)) fun ys m w1 w2 w3 w4 => h (y :: ys) m (by omega) (by rw [List.length_cons, Nat.mul_succ]; omega) (fun z hz => ?_) (by rw [List.length_cons, List.length_cons, w4])
    rcases List.mem_cons.mp hz with rfl | hz
    · exact hP
    · exact w3 z hz
/-- a loop by what holds behind each turn -/
theorem forD_inv {α : Type} {c : α → D} {tg : SG} {body : FS} {E : DEnds} (I : List α → SEnv → Nat → Prop) {xs : List α}
    (H : ∀ (pre : List α) (a : α) (post : List α) (env : SEnv) (n : Nat) (next : SEnv → Nat → Prop), xs = pre ++ a :: post → I pre env n → (∀ e m, I (pre ++ [a]) e m → next e m) → tg (c a) env fun env' => body { nx := next, ct := next, bk := E.nx, rt := E.rt } env' n)
    (hE : ∀ env n, I xs env n → E.nx env n) {env : SEnv} {n : Nat} (h0 : I [] env n) : forD tg body E (xs.map c) env n := by
  have key : ∀ (post pre : List α) env n, xs = pre ++ post → I pre env n → forD tg body E (post.map c) env n := by
    intro post
    induction post with
    | nil =>
      intro pre env n e h
      rw [List.append_nil] at e
      subst e
      exact hE env n h
    | cons a post ih =>
      intro pre env n e h
      exact H pre a post env n _ e h fun e2 m h2 => ih (pre ++ [a]) e2 m (by rw [e]; simp) h2
  exact key xs [] env n rfl h0
theorem ups_eq (lo : Int) (n : Nat) : ups lo n = (List.range n).map fun i : Nat => D.int (lo + (i : Int)) := rfl

/-! ### the prelude of the laws -/
abbrev LIM : Nat := 1000000000000000000
/-- what one draw tells at the most -/
abbrev DRW : Nat := 400
def F_mixed : FC := fun ds n Q => ∃ a b c : Int, ds = [.int a, .int b, .int c] ∧ (0 ≤ a ∧ a < 2147483648) ∧ (0 ≤ b ∧ b < 1152921504606846976) ∧ (0 ≤ c ∧ c ≤ 63) ∧ ∀ r : Int, 0 ≤ r → r < 2147483587 → Q (.val (.int r)) n
def F_draw : FC := fun ds n Q => ∃ many : Int, ds = [dice, .int many] ∧ 1 ≤ many ∧ many.natAbs.log2 < 9000 ∧ n + DRW ≤ LIM ∧ ∀ (r : Int) (m : Nat), 0 ≤ r → r < many → n ≤ m → m ≤ n + DRW → Q (.val (.int r)) m
def F_one_of : FC := fun ds n Q => ∃ xs : List D, ds = [dice, .lst xs] ∧ xs ≠ [] ∧ xs.length ≤ 16777216 ∧ n + DRW ≤ LIM ∧ ∀ (x : D) (m : Nat), x ∈ xs → n ≤ m → m ≤ n + DRW → Q (.val x) m
def F_dice0 : FC := fun ds n Q => ∃ (ns : List Int) (i : Int), ds = [.scr ns, .int i] ∧ 0 ≤ i ∧ i ≤ 62 ∧ ∀ d0 d1 : Int, 0 ≤ d0 → (0 ≤ d1 ∧ d1 < 2147483629) → Q (.own [.int d0, .int d1, .int 0, .int i]) n
def F_dice : FC := fun ds n Q => ∃ (ns : List Int) (i : Int), ds = [.scr ns, .int i] ∧ 0 ≤ i ∧ i ≤ 62 ∧ Q (.val dice) n
def F_dices : FC := fun ds n Q => ∃ (ns : List Int) (few : Int), ds = [.scr ns, .int few] ∧ ns.length ≤ 63 ∧ 1 ≤ few ∧ few ≤ 60 ∧ ∀ k : Nat, 1 ≤ k → k ≤ few.toNat → Q (.own (List.replicate k dice)) n
/-- plain data of depth at most k: told alike exactly if it is the same -/
def F_exact (k : Nat) : FC := fun ds n Q => ∃ x y : D, ds = [x, y] ∧ plain k x = true ∧ plain k y = true ∧ Q (.val (.bl (decide (x = y)))) n
def F_none : FC := fun _ _ _ => False
def pr_mixed : FS := (sSeq (sAsg 3 (f2 gAdd3 (f2 gMul (fVar 0) (fC (.int 69069))) (f2 gMul (f2 gMul (fC (.int 104729)) (fVar 1)) (fVar 1)))) (sSeq (sAsg 3 (f2 gMod (fCl gInt (aCons (f2 gAdd3 (f2 gAdd3 (fVar 3) (f2 gMul (fC (.int 7919)) (fVar 2))) (fVar 1)) aNil)) (fC (.int 2147483647)))) (sSeq (sAsg 3 (f2 gMod (fCl gInt (aCons (f2 gAdd3 (f2 gMul (fVar 3) (fVar 3)) (fC (.int 40503))) aNil)) (fC (.int 2147483629)))) (sRet (f2 gMod (fCl gInt (aCons (f2 gMul (fVar 3) (fC (.int 48271))) aNil)) (fC (.int 2147483587)))))))
def pr_draw : FS := (sSeq (sIf (tVal (f2 gGt (fIxB 0 0) (fC (.int 0)))) (sSeq (sAsg 4 (f2 gMod (fCl gInt (aCons (fIxB 0 0) aNil)) (fVar 1))) (sSeq (sSetB 0 0 (f2 gDiv (fIxB 0 0) (fVar 1))) (sRet (fVar 4)))) sNext) (sSeq (sAsg 2 (fC (.int 0))) (sSeq (sFor (iRange1 (aCons (f2 gAdd3 (fC (.int 1)) (f2 gDiv (f1 gBits (fVar 1)) (fC (.int 28)))) aNil)) (nN 3) (sSeq (sSetB 0 2 (f2 gAdd3 (fIxB 0 2) (fC (.int 1)))) (sAsg 2 (f2 gAdd3 (f2 gMul (fVar 2) (fC (.int 2147483587))) (fCall 3 F_mixed [] (aCons (fIxB 0 1) (aCons (fIxB 0 2) (aCons (fIxB 0 3) aNil)))))))) (sRet (f2 gMod (fCl gInt (aCons (fVar 2) aNil)) (fVar 1))))))
def pr_one_of : FS := (sRet (f2 gIx (fVar 1) (fCall 2 F_draw [] (aCons (fVar 0) (aCons (fCl gLen (aCons (fVar 1) aNil)) aNil)))))
def pr_dice : FS := (sSeq (sAsg 2 (fCl gSum (aCons (fSl (fVar 0) (oSo (fVar 1)) (oSo (f2 gAdd3 (fVar 1) (fC (.int 1))))) aNil))) (sRetO (oLst (aCons (f2 gMod (fCl gInt (aCons (fCl gMax (aCons (f2 gSub (fVar 2) (f2 gPow (fC (.int 10)) (fC (.int 18)))) (aCons (fC (.int 0)) aNil))) aNil)) (f2 gPow (f2 gPow (fC (.int 10)) (fC (.int 60))) (fC (.int 8)))) (aCons (f2 gMod (fCl gInt (aCons (fVar 2) aNil)) (fC (.int 2147483629))) (aCons (fC (.int 0)) (aCons (fVar 1) aNil)))))))
def pr_dices : FS := (sRetO (oComp (iRange1 (aCons (fCl gMax (aCons (fC (.int 1)) (aCons (fCl gMin (aCons (fVar 1) (aCons (fCl gLen (aCons (fVar 0) aNil)) aNil))) aNil))) aNil)) (gN 2) tYesD (fCall 2 F_dice [] (aCons (fVar 0) (aCons (fVar 2) aNil))) [2]))
def pr_exact (Fx : FC) : FS := (sSeq (sIf (tVal (fIsiT [.list, .tuple] (fVar 0))) (sSeq (sAsg 2 (fAnd (f2 gEq (fIsi .list (fVar 1)) (fIsi .list (fVar 0))) (f2 gEq (fIsi .tuple (fVar 1)) (fIsi .tuple (fVar 0))))) (sRet (fAnd (fVar 2) (fAnd (f2 gEq (fCl gLen (aCons (fVar 0) aNil)) (fCl gLen (aCons (fVar 1) aNil))) (fCl gAll (aCons (fFrz (oComp (iZipD (aCons (fVar 0) (aCons (fVar 1) aNil))) (gT 2 (gsCons (gN 3) (gsCons (gN 4) gsNil))) tYesD (fCall 2 Fx [] (aCons (fVar 3) (aCons (fVar 4) aNil))) [3, 4])) aNil)))))) sNext) (sSeq (sIf (tVal (fIsi .dict (fVar 0))) (sSeq (sAsg 2 (fAnd (fIsi .dict (fVar 1)) (fCall 2 Fx [] (aCons (fFrz (oCl oList (aCons (fVar 0) aNil))) (aCons (fFrz (oCl oList (aCons (fVar 1) aNil))) aNil))))) (sRet (fAnd (fVar 2) (fCl gAll (aCons (fFrz (oComp (iSeqN 0) (gN 5) tYesD (fCall 2 Fx [] (aCons (f2 gIx (fVar 0) (fVar 5)) (aCons (f2 gIx (fVar 1) (fVar 5)) aNil))) [5])) aNil))))) sNext) (sSeq (sIf (tOrD (tVal (fIsiT [.list, .tuple, .dict] (fVar 1))) (tVal (f2 gNe (f2 gIsN (fVar 0) (fC .non)) (f2 gIsN (fVar 1) (fC .non))))) (sRet (fC (.bl false))) sNext) (sSeq (sAsg 2 (fAnd (f2 gEq (fIsi .int (fVar 0)) (fIsi .int (fVar 1))) (f2 gEq (fIsi .str (fVar 0)) (fIsi .str (fVar 1))))) (sRet (fAnd (fVar 2) (fAnd (f2 gEq (fIsi .bool (fVar 0)) (fIsi .bool (fVar 1))) (f2 gEq (fVar 0) (fVar 1)))))))))
theorem mod_lt {a b : Int} (h : 0 < b) : 0 ≤ a % b ∧ a % b < b := ⟨Int.emod_nonneg _ (by omega), Int.emod_lt_of_pos _ h⟩
theorem pre_mixed : ∀ ds n Q, F_mixed ds n Q → ds.length = 3 → pr_mixed { nx := fun _ m => Q (.val .non) m, rt := Q } (startE 1 ds) n := by
  rintro ds n Q ⟨a, b, c, rfl, ha, hb, hc, h⟩ _
  simp [sSeq, pr_mixed]
  refine ⟨.right (by decide), .left (by decide), .right (by omega), .left (by decide), ?_, .right (by decide), ?_⟩
  · have := @mod_lt (a * 69069 + 104729 * b * b + 7919 * c + b) 2147483647 (by decide)
    exact .left (by omega)
  · have := @mod_lt ((((a * 69069 + 104729 * b * b + 7919 * c + b) % 2147483647 * ((a * 69069 + 104729 * b * b + 7919 * c + b) % 2147483647) + 40503) % 2147483629) * 48271) 2147483587 (by decide)
    exact h _ this.1 this.2
theorem divOk_small {j : Int} (h : 0 < j) (h2 : j < 1073741824) : DivOk j := ⟨h, by
  have h3 : j.natAbs < 2 ^ 30 := by omega
  have := (Nat.log2_lt (by omega)).mpr h3
  omega⟩
theorem bits_le (many : Int) (h : many.natAbs.log2 < 9000) : Builtin.Int.intBits many ≤ 9000 := by
  unfold Builtin.Int.intBits
  split <;> omega
theorem pre_draw : ∀ ds n Q, F_draw ds n Q → ds.length = 2 → pr_draw { nx := fun _ m => Q (.val .non) m, rt := Q } (startE 3 ds) n := by
  rintro ds n Q ⟨many, rfl, h1, h2, h3, h⟩ _
  simp [sSeq, pr_draw]
  intro d hd
  split
  · intro d1 hd1
    refine ⟨by omega, fun d2 hd2 => ⟨⟨by omega, h2⟩, ?_, ?_⟩⟩
    · exact Int.ediv_nonneg hd2 (by omega)
    · have := @mod_lt d1 many (by omega)
      exact h _ _ this.1 this.2 (by omega) (by simp only [DRW] at *; omega)
  · have hb := bits_le many h2
    refine ⟨divOk_small (by decide) (by decide), by omega, ?_⟩
    have hlen : (1 + (Builtin.Int.intBits many : Int) / 28).toNat ≤ 323 := by omega
    rw [ups_eq]
    refine forD_inv (fun pre env m => ∃ (v : Int) (x3 : Option Sl), env = [some (.val dice), some (.val (.int many)), some (.val (.int v)), x3, none] ∧ m = n + pre.length) ?_ ?_ ⟨0, none, rfl, rfl⟩
    · rintro pre a post env m next hx ⟨v, x3, rfl, rfl⟩ hn
      have hpl : pre.length < 323 := by
        have := congrArg List.length hx
        simp at this
        omega
      simp only [DRW, LIM] at h3
      simp [sSeq, DiceAt]
      intro d2 hd2 hd2'
      refine ⟨⟨by omega, by omega⟩, .right (by decide), ?_⟩
      intro d3 hd3 hd3' d4 hd4 hd4' d5 hd5 hd5'
      refine ⟨d3, d4, d5, rfl, ⟨by omega, by omega⟩, ⟨by omega, by omega⟩, ⟨hd5, hd5'⟩, fun r hr hr' => ?_⟩
      refine hn _ _ ⟨_, _, rfl, by simp; omega⟩
    · rintro env m ⟨v, x3, rfl, rfl⟩
      have := @mod_lt v many (by omega)
      simp
      refine ⟨by omega, h _ _ this.1 this.2 (by omega) (by simp only [DRW]; omega)⟩
theorem atI_ok {α : Type} {xs : List α} {r : Int} (h : 0 ≤ r) (h2 : r < xs.length) : ∃ x, atI xs r = some x ∧ x ∈ xs := by
  refine ⟨xs[r.toNat]'(by omega), ?_, List.getElem_mem _⟩
  unfold atI ixN
  rw [if_pos h, if_pos (by omega)]
  simp
theorem pre_one_of : ∀ ds n Q, F_one_of ds n Q → ds.length = 2 → pr_one_of { nx := fun _ m => Q (.val .non) m, rt := Q } (startE 0 ds) n := by
  rintro ds n Q ⟨xs, rfl, h0, hz, h1, h⟩ _
  simp [sSeq, pr_one_of]
  have hl : 0 < xs.length := List.length_pos_iff.mpr h0
  refine ⟨xs.length, rfl, by omega, ?_, h1, fun r m hr hr' hm hm' => ?_⟩
  · have h3 : ((xs.length : Int)).natAbs < 2 ^ 30 := by omega
    have := (Nat.log2_lt (by omega)).mpr h3
    omega
  · obtain ⟨x, hx, hx'⟩ := atI_ok hr hr'
    exact ⟨x, hx, h x m hx' hm hm'⟩
theorem pre_dice0 : ∀ ds n Q, F_dice0 ds n Q → ds.length = 2 → pr_dice { nx := fun _ m => Q (.val .non) m, rt := Q } (startE 1 ds) n := by
  rintro ds n Q ⟨ns, i, rfl, h0, h1, h⟩ _
  simp [sSeq, pr_dice]
  refine ⟨_, rfl, ⟨by decide, by decide⟩, ⟨by decide, by decide +kernel⟩, ⟨by decide, by decide +kernel⟩, by decide, h _ _ (Int.emod_nonneg _ (by decide)) ?_⟩
  exact mod_lt (by decide)
theorem goD_const {α : Type} {c : α → D} {tg : FG} {tt : FT} {te : FE} {env : DEnv} (d : D) {xs : List α} {n : Nat} {Q : List D → Nat → Prop} (H : ∀ a ∈ xs, ∀ m K, K (some d) m → stepD tg tt te env (c a) m K) (h : Q (List.replicate xs.length d) n) : goD tg tt te env (xs.map c) n Q := by
  refine goD_map (fun _ => d) H ?_
  rw [show xs.map (fun _ => d) = List.replicate xs.length d from List.map_const' ..]
  exact h
theorem pre_dices : ∀ ds n Q, F_dices ds n Q → ds.length = 2 → pr_dices { nx := fun _ m => Q (.val .non) m, rt := Q } (startE 1 ds) n := by
  rintro ds n Q ⟨ns, few, rfl, hl, h0, h1, h⟩ _
  simp [sSeq, pr_dices]
  refine ⟨⟨by omega, by omega⟩, ?_⟩
  rw [ups_eq]
  refine goD_const dice (fun a ha m K hK => ?_) ?_
  · have := List.mem_range.mp ha
    simp [stepD]
    exact ⟨ns, a, rfl, by omega, by omega, hK⟩
  · rw [List.length_range]
    exact h _ (by omega) (by omega)
/-! ### exact -/
theorem plain_lst {k : Nat} {xs : List D} (h : plain k (.lst xs) = true) : ∃ j, k = j + 1 ∧ plains j xs = true := by
  cases k with
  | zero => simp at h
  | succ j => exact ⟨j, rfl, by simpa using h⟩
theorem plain_tup {k : Nat} {xs : List D} (h : plain k (.tup xs) = true) : ∃ j, k = j + 1 ∧ plains j xs = true := by
  cases k with
  | zero => simp at h
  | succ j => exact ⟨j, rfl, by simpa using h⟩
theorem plains_mem {k : Nat} {x : D} : ∀ {xs : List D}, plains k xs = true → x ∈ xs → plain k x = true
  | [], _, h => nomatch h
  | y :: ys, h, hx => by
    simp only [plains, Bool.and_eq_true] at h
    rcases List.mem_cons.mp hx with rfl | hx
    · exact h.1
    · exact plains_mem h.2 hx
theorem zipD_eq : ∀ xs ys : List D, zipD xs ys = (xs.zip ys).map fun p => .tup [p.1, p.2]
  | [], _ => by simp [zipD]
  | _ :: _, [] => by simp [zipD]
  | x :: xs, y :: ys => by simp [zipD, zipD_eq xs ys]
theorem zip_all : ∀ xs ys : List D, xs.length = ys.length → ((xs.zip ys).map fun p => decide (p.1 = p.2)).all id = decide (xs = ys)
  | [], [], _ => rfl
  | [], _ :: _, h => by simp at h
  | _ :: _, [], h => by simp at h
  | x :: xs, y :: ys, h => by
    have ih := zip_all xs ys (by simpa using h)
    simp only [List.zip_cons_cons, List.map_cons, List.all_cons, ih, id]
    rw [← Bool.decide_and]
    simp
/-- the kinds of plain data -/
theorem plain_cases {k : Nat} {x : D} (h : plain k x = true) : x = .non ∨ (∃ b, x = .bl b) ∨ (∃ i, x = .int i) ∨ (∃ s, x = .str s) ∨ (∃ xs, x = .lst xs) ∨ ∃ xs, x = .tup xs := by
  cases x with
  | non => exact .inl rfl
  | bl b => exact .inr (.inl ⟨b, rfl⟩)
  | int i => exact .inr (.inr (.inl ⟨i, rfl⟩))
  | str s => exact .inr (.inr (.inr (.inl ⟨s, rfl⟩)))
  | lst xs => exact .inr (.inr (.inr (.inr (.inl ⟨xs, rfl⟩))))
  | tup xs => exact .inr (.inr (.inr (.inr (.inr ⟨xs, rfl⟩))))
  | _ => cases k <;> simp at h
theorem exact_all {Fx : FC} {k n : Nat} {xs ys : List D} {env : DEnv} {Q : List D → Nat → Prop} (hF : Fx = F_exact k) (hl : 5 ≤ env.length) (hx : plains k xs = true) (hy : plains k ys = true) (h : xs.length = ys.length) (hQ : Q (((xs.zip ys).map fun p => decide (p.1 = p.2)).map D.bl) n) :
    goD (gT 2 (gsCons (gN 3) (gsCons (gN 4) gsNil))) tYesD (fCall 2 Fx [] (aCons (fVar 3) (aCons (fVar 4) aNil))) env (zipD xs ys) n Q := by
  subst hF
  rw [zipD_eq]
  refine goD_map (fun p => .bl (decide (p.1 = p.2))) (fun p hp m K hK => ?_) (by rw [List.map_map] at hQ; exact hQ)
  have h1 := List.of_mem_zip hp
  match env, hl with
  | a :: b :: c :: d :: e :: r, _ =>
    simp [stepD]
    exact ⟨_, _, rfl, plains_mem hx h1.1, plains_mem hy h1.2, hK⟩
theorem pre_exact_lst (k : Nat) (Fx : FC) (hF : ∀ j, k = j + 1 → Fx = F_exact j) (xs : List D) (y : D) (n : Nat) (Q : Sl → Nat → Prop) (hx : plain k (.lst xs) = true) (hy : plain k y = true) (h : Q (.val (.bl (decide (D.lst xs = y)))) n) : pr_exact Fx { nx := fun _ m => Q (.val .non) m, rt := Q } (startE 4 [.lst xs, y]) n := by
  obtain ⟨j, rfl, hxs⟩ := plain_lst hx
  rcases plain_cases hy with rfl | ⟨b, rfl⟩ | ⟨b, rfl⟩ | ⟨b, rfl⟩ | ⟨ys, rfl⟩ | ⟨b, rfl⟩
  case inr.inr.inr.inr.inl =>
    obtain ⟨j', e, hys⟩ := plain_lst hy
    cases e
    simp [sSeq, pr_exact]
    split
    · rename_i hl
      refine exact_all (hF j rfl) (by simp) hxs hys (by omega) ⟨_, rfl, ?_⟩
      rw [zip_all xs ys (by omega)]
      have e : decide (D.lst xs = D.lst ys) = decide (xs = ys) := by simp
      rw [← e]; exact h
    · rename_i hl
      have e : decide (D.lst xs = D.lst ys) = false := by
        simp
        intro e
        subst e
        exact hl rfl
      rw [e] at h; exact h
  all_goals (simp [sSeq, pr_exact]; simpa using h)
theorem pre_exact_tup (k : Nat) (Fx : FC) (hF : ∀ j, k = j + 1 → Fx = F_exact j) (xs : List D) (y : D) (n : Nat) (Q : Sl → Nat → Prop) (hx : plain k (.tup xs) = true) (hy : plain k y = true) (h : Q (.val (.bl (decide (D.tup xs = y)))) n) : pr_exact Fx { nx := fun _ m => Q (.val .non) m, rt := Q } (startE 4 [.tup xs, y]) n := by
  obtain ⟨j, rfl, hxs⟩ := plain_tup hx
  rcases plain_cases hy with rfl | ⟨b, rfl⟩ | ⟨b, rfl⟩ | ⟨b, rfl⟩ | ⟨b, rfl⟩ | ⟨ys, rfl⟩
  case inr.inr.inr.inr.inr =>
    obtain ⟨j', e, hys⟩ := plain_tup hy
    cases e
    simp [sSeq, pr_exact]
    split
    · rename_i hl
      refine exact_all (hF j rfl) (by simp) hxs hys (by omega) ⟨_, rfl, ?_⟩
      rw [zip_all xs ys (by omega)]
      have e : decide (D.tup xs = D.tup ys) = decide (xs = ys) := by simp
      rw [← e]; exact h
    · rename_i hl
      have e : decide (D.tup xs = D.tup ys) = false := by
        simp
        intro e
        subst e
        exact hl rfl
      rw [e] at h; exact h
  all_goals (simp [sSeq, pr_exact]; simpa using h)
theorem pre_exact_atom (k : Nat) (Fx : FC) (x y : D) (n : Nat) (Q : Sl → Nat → Prop) (hx : flatD x = true) (hy : plain k y = true) (h : Q (.val (.bl (decide (x = y)))) n) : pr_exact Fx { nx := fun _ m => Q (.val .non) m, rt := Q } (startE 4 [x, y]) n := by
  cases x with
  | non => 
    rcases plain_cases hy with rfl | ⟨b, rfl⟩ | ⟨b, rfl⟩ | ⟨b, rfl⟩ | ⟨b, rfl⟩ | ⟨ys, rfl⟩
    all_goals (simp [sSeq, pr_exact]; first | simpa using h | (rw [Bool.beq_eq_decide_eq]; simpa using h))
  | bl a => 
    rcases plain_cases hy with rfl | ⟨b, rfl⟩ | ⟨b, rfl⟩ | ⟨b, rfl⟩ | ⟨b, rfl⟩ | ⟨ys, rfl⟩
    all_goals (simp [sSeq, pr_exact]; first | simpa using h | (rw [Bool.beq_eq_decide_eq]; simpa using h))
  | int a => 
    rcases plain_cases hy with rfl | ⟨b, rfl⟩ | ⟨b, rfl⟩ | ⟨b, rfl⟩ | ⟨b, rfl⟩ | ⟨ys, rfl⟩
    all_goals (simp [sSeq, pr_exact]; first | simpa using h | (rw [Bool.beq_eq_decide_eq]; simpa using h))
  | str a => 
    rcases plain_cases hy with rfl | ⟨b, rfl⟩ | ⟨b, rfl⟩ | ⟨b, rfl⟩ | ⟨b, rfl⟩ | ⟨ys, rfl⟩
    all_goals (simp [sSeq, pr_exact]; first | simpa using h | (rw [Bool.beq_eq_decide_eq]; simpa using h))
  | _ => simp [flatD] at hx
theorem pre_exactF (k : Nat) (Fx : FC) (hF : ∀ j, k = j + 1 → Fx = F_exact j) : ∀ ds n Q, F_exact k ds n Q → ds.length = 2 → pr_exact Fx { nx := fun _ m => Q (.val .non) m, rt := Q } (startE 4 ds) n := by
  rintro ds n Q ⟨x, y, rfl, hx, hy, h⟩ _
  rcases plain_cases hx with rfl | ⟨b, rfl⟩ | ⟨b, rfl⟩ | ⟨b, rfl⟩ | ⟨b, rfl⟩ | ⟨ys, rfl⟩
  · exact pre_exact_atom k Fx _ _ n Q rfl hy h
  · exact pre_exact_atom k Fx _ _ n Q rfl hy h
  · exact pre_exact_atom k Fx _ _ n Q rfl hy h
  · exact pre_exact_atom k Fx _ _ n Q rfl hy h
  · exact pre_exact_lst k Fx hF _ _ n Q hx hy h
  · exact pre_exact_tup k Fx hF _ _ n Q hx hy h
end DL

/-! ## Lem -/
/-! Lem: one step at a time -/
namespace DL
open PySem L2
/-- one statement at a time, what follows left closed -/
theorem sSeq_of {a b : FS} {E : DEnds} {env : SEnv} {n : Nat} (h : ∀ next : SEnv → Nat → Prop, (∀ e m, b E e m → next e m) → a { E with nx := next } env n) : sSeq a b E env n := h _ fun _ _ h => h
theorem call_of {F : FC} {ds : List D} {n : Nat} {Q : Sl → Nat → Prop} (h : ∀ next : Sl → Nat → Prop, (∀ s m, Q s m → next s m) → F ds n next) : F ds n Q := h _ fun _ _ h => h
theorem forD_nil {tg : SG} {b : FS} {E : DEnds} {env : SEnv} {n : Nat} (h : E.nx env n) : forD tg b E [] env n := h
theorem forD_cons {tg : SG} {b : FS} {E : DEnds} {x : D} {xs : List D} {env : SEnv} {n : Nat} (h : ∀ next : SEnv → Nat → Prop, (∀ e m, forD tg b E xs e m → next e m) → tg x env fun env' => b { nx := next, ct := next, bk := E.nx, rt := E.rt } env' n) : forD tg b E (x :: xs) env n := h _ fun _ _ h => h
/-- an item of a list by its place -/
theorem getD_of {row : List Int} {i : Nat} (h : i < row.length) : (row.map D.int)[i]? = some (.int (row.getD i 0)) := by
  rw [List.getElem?_map, List.getElem?_eq_getElem h, List.getD_eq_getElem?_getD, List.getElem?_eq_getElem h]
  rfl
theorem atI_nat' {α : Type} {xs : List α} {i : Nat} {x : α} (h : xs[i]? = some x) : atI xs (i : Int) = some x := by
  have hi := (List.getElem?_eq_some_iff.mp h).1
  unfold atI ixN
  rw [if_pos (by omega), if_pos (by omega)]
  simpa using h
theorem range_pre {n : Nat} {pre post : List Nat} {a : Nat} (hx : List.range n = pre ++ a :: post) : pre.length < n ∧ a = pre.length := by
  have hlen := congrArg List.length hx
  have hpl : pre.length < n := by simp at hlen; omega
  refine ⟨hpl, ?_⟩
  have h2 := congrArg (fun l : List Nat => l[pre.length]?) hx
  simp only [List.getElem?_append_right (Nat.le_refl _), Nat.sub_self, List.getElem?_cons_zero] at h2
  rw [List.getElem?_range hpl] at h2
  exact (Option.some.inj h2).symm
theorem enumD_range (f : Nat → D) (n : Nat) : enumD 0 ((List.range n).map f) = (List.range n).map fun i : Nat => D.tup [.int (i : Int), f i] := by
  refine List.ext_getElem? fun i => ?_
  by_cases hi : i < n
  · have h1 : ((List.range n).map f)[i]? = some (f i) := by rw [List.getElem?_map, List.getElem?_range hi]; rfl
    rw [enumD_get 0 _ i _ h1, List.getElem?_map, List.getElem?_range hi, Nat.zero_add]
    rfl
  · rw [List.getElem?_eq_none (by rw [enumD_len, List.length_map, List.length_range]; omega), List.getElem?_eq_none (by rw [List.length_map, List.length_range]; omega)]
end DL

/-! ## End0 -/
/-! End0: the kit of a law with dice alone; the law's own promise -/
namespace DL
open PySem PySem.Spec PyProof.Rows L2
def kitC (K : PySem.W.Frag) (cls : Nat → Option (Addr × List Str)) : Kit where
  K := K
  cls := cls
  J := fun t ps P o => t = 0 ∧ ps = [] ∧ DiceJ P o
  mono := fun t ps P P' o _ _ hn h => ⟨h.1, h.2.1, h.2.2.mono hn⟩
def kit0 (K : PySem.W.Frag) : Kit := kitC K fun _ => none
theorem kitC_dice {K : PySem.W.Frag} {cls : Nat → Option (Addr × List Str)} : HasDice (kitC K cls) := fun P o => ⟨fun h => h.2.2, fun h => ⟨rfl, rfl, h⟩⟩
theorem kit0_dice {K : PySem.W.Frag} : HasDice (kit0 K) := kitC_dice
section
variable {κ : Kit} {P : Program} {w : World} {K : PySem.W.Frag} {mg : Str → Option Value} {base : Heap} {f : Addr} {fd : FuncData} {ps : List Str} {k j : Nat}
theorem fn_none : FnOk P w K mg base CX0 k f fd ps (spD κ j F_none) := by
  have no : ∀ vs H Q E, spD κ j F_none vs H Q E → False := fun vs H Q E h => by
    obtain ⟨_, _, _, _, _, _, _, hf, _⟩ := h
    exact hf
  exact ⟨fun vs H Q E h => (no _ _ _ _ h).elim, fun A outer s H args us vs Q E _ _ _ _ h => (no _ _ _ _ h).elim⟩
theorem dice_step : ∀ ds n Q, F_dice ds n Q → F_dice0 ds n fun s m => ∃ d0 d1 d2 d3 : Int, s = .own [.int d0, .int d1, .int d2, .int d3] ∧ DiceAt 0 d0 m ∧ DiceAt 1 d1 m ∧ DiceAt 2 d2 m ∧ DiceAt 3 d3 m ∧ Q (.val dice) m := by
  rintro ds n Q ⟨ns, i, rfl, h0, h1, h⟩
  exact ⟨ns, i, rfl, h0, h1, fun d0 d1 a0 a1 => ⟨d0, d1, 0, i, rfl, a0, a1, ⟨Int.le_refl _, by omega⟩, ⟨h0, by omega⟩, h⟩⟩
/-- the contract of a law: over the script it answers True -/
def F_law : FC := fun ds n Q => ∃ ns : List Int, ds = [.scr ns] ∧ ns.length ≤ 63 ∧ n = 0 ∧ ∀ m, Q (.val (.bl true)) m
theorem law_sp {κ : Kit} {H : Hp} {a : Addr} {ns : List Int} (hl : ns.length ≤ 63) (hS : SqL κ.K H a (ns.map V.int)) : spD κ 1 F_law [.ref a] H (fun v _ => v = .bl true) fun _ _ _ => False := by
  refine ⟨rfl, ⟨fun _ => none, fun _ => none, 0⟩, H, [.scr ns], fun s _ => s = .val (.bl true), ⟨fun _ _ h => (nomatch h), fun _ _ h => .inl h, fun _ _ h => (nomatch h)⟩, .cons (.scr hS (Nat.le_trans hl (by decide))) .nil, ⟨ns, rfl, hl, rfl, fun _ => rfl⟩, ?_⟩
  intro v s P' G' H' gr g r e
  subst e
  cases r
  rfl
end
end DL

/-! ## ComRd -/
/-! ComRd: readings of defs that many laws share -/
namespace DL
open PySem L2
/-- is_whole(value), slots 0 value -/
def cm_is_whole : FS := (sRet (fAnd (fIsi .int (fVar 0)) (fNot (fIsi .bool (fVar 0)))))
/-- is_count(value, most), slots 0 value 1 most -/
def cm_is_count (F_is_whole : FC) : FS := (sRet (fAnd (fCall 1 F_is_whole [] (aCons (fVar 0) aNil)) (fAnd (f2 gGe (fVar 0) (fC (.int 0))) (fOr (f2 gIsN (fVar 1) (fC .non)) (f2 gLe (fVar 0) (fVar 1))))))
/-- is_text(value), slots 0 value 1 sign -/
def cm_is_text : FS := (sRet (fAnd (fIsi .str (fVar 0)) (fCl gAll (aCons (fFrz (oComp (iSeqN 0) (gN 1) tYesD (fChain gLe gLe (fC (.str [97])) (fVar 1) (fC (.str [122]))) [1])) aNil))))
/-- check_text(value), slots 0 value -/
def cm_check_text (F_is_text : FC) : FS := (sIf (tNotD (tTru (fCall 1 F_is_text [] (aCons (fVar 0) aNil)))) sNever sNext)
/-- _law_letters(dice, many), slots 0 dice 1 many 2 found 3 spin 4 late 5 sign -/
def cm__law_letters (F__law_draw : FC) : FS := (sSeq (sAsgO 2 (oLst aNil)) (sSeq (sFor (iRange1 (aCons (fVar 1) aNil)) (nN 3) (sSeq (sAsg 4 (f2 gIx (fC (.str [97, 98, 99, 100, 101, 102, 103, 104, 105, 106, 107, 108, 109, 110, 111, 112, 113, 114, 115, 116, 117, 118, 119, 120, 121, 122])) (fCall 2 F__law_draw [] (aCons (fVar 0) (aCons (fC (.int 26)) aNil))))) (sAppV 2 (fIf (tVal (f2 gNotIn (fVar 4) (fVar 2))) (fVar 4) (f2 gIx (fFrz (oComp (iSeq (fFrz (oCl oList (aCons (fC (.str [97, 98, 99, 100, 101, 102, 103, 104, 105, 106, 107, 108, 109, 110, 111, 112, 113, 114, 115, 116, 117, 118, 119, 120, 121, 122])) aNil)))) (gN 5) (tVal (f2 gNotIn (fVar 5) (fVar 2))) (fVar 5) [5])) (fC (.int 0))))))) (sRetV (fM1 gJoin (fC (.str [])) (fFrz (oCl oSorted (aCons (fVar 2) aNil)))))))
/-- _law_any_text(dice, most), slots 0 dice 1 most 2 signs 3 spin -/
def cm__law_any_text (F__law_draw : FC) (F__law_letters : FC) (F__law_one_of : FC) : FS := (sSeq (sAsg 2 (fFrz (oCl oList (aCons (fCall 2 F__law_letters [] (aCons (fVar 0) (aCons (f2 gAdd3 (fC (.int 1)) (fCall 2 F__law_draw [] (aCons (fVar 0) (aCons (fC (.int 5)) aNil)))) aNil))) aNil)))) (sRet (fM1 gJoin (fC (.str [])) (fFrz (oComp (iRange1 (aCons (fCall 2 F__law_draw [] (aCons (fVar 0) (aCons (f2 gAdd3 (fVar 1) (fC (.int 1))) aNil))) aNil)) (gN 3) tYesD (fCall 2 F__law_one_of [] (aCons (fVar 0) (aCons (fVar 2) aNil))) [3])))))
/-- is_word(value), slots 0 value -/
def cm_is_word (F_is_text : FC) : FS := (sRet (fAnd (fCall 1 F_is_text [] (aCons (fVar 0) aNil)) (f2 gNe (fVar 0) (fC (.str [])))))
/-- check_word(value), slots 0 value -/
def cm_check_word (F_is_word : FC) : FS := (sIf (tNotD (tTru (fCall 1 F_is_word [] (aCons (fVar 0) aNil)))) sNever sNext)
/-- check_from(value, least), slots 0 value 1 least -/
def cm_check_from (F_is_count : FC) : FS := (sIf (tOrD (tNotD (tTru (fCall 2 F_is_count [.non] (aCons (fVar 0) aNil)))) (tVal (f2 gLt (fVar 0) (fVar 1)))) sNever sNext)
/-- has(text, period), slots 0 text 1 period -/
def cm_has : FS := (sRet (fAnd (f2 gLt (fVar 1) (fCl gLen (aCons (fVar 0) aNil))) (f2 gEq (fSl (fVar 0) (oSo (fVar 1)) oNo) (fSl (fVar 0) oNo (oSo (f2 gSub (fCl gLen (aCons (fVar 0) aNil)) (fVar 1)))))))
/-- periods_in(text), slots 0 text 1 period -/
def cm_periods_in (F_has : FC) : FS := (sRetO (oComp (iRange2 (aCons (fC (.int 1)) (aCons (fCl gLen (aCons (fVar 0) aNil)) aNil))) (gN 1) (tTru (fCall 2 F_has [] (aCons (fVar 0) (aCons (fVar 1) aNil)))) (fVar 1) [1]))
/-- least_in(word), slots 0 word -/
def cm_least_in (F_periods_in : FC) : FS := (sRet (f2 gIx (fFrz (oLst (aStar (fCall 1 F_periods_in [] (aCons (fVar 0) aNil)) (aCons (fCl gLen (aCons (fVar 0) aNil)) aNil)))) (fC (.int 0))))
/-- _law_ground(dice, most), slots 0 dice 1 most 2 some 3 many 4 signs 5 gap 6 at -/
def cm__law_ground (F__law_draw : FC) (F__law_letters : FC) (F__law_one_of : FC) : FS := (sSeq (sAsg 2 (fFrz (oLst (aCons (fTup (aCons (fC (.int 2)) (aCons (fC (.int 2)) aNil))) (aCons (fTup (aCons (fC (.int 3)) (aCons (fC (.int 2)) aNil))) (aCons (fTup (aCons (fC (.int 2)) (aCons (fC (.int 3)) aNil))) (aCons (fTup (aCons (fC (.int 4)) (aCons (fC (.int 2)) aNil))) (aCons (fTup (aCons (fC (.int 5)) (aCons (fC (.int 2)) aNil))) (aCons (fTup (aCons (fC (.int 2)) (aCons (fC (.int 4)) aNil))) (aCons (fTup (aCons (fC (.int 3)) (aCons (fC (.int 3)) aNil))) aNil)))))))))) (sSeq (sAsg 3 (fFrz (oLst (aCons (fC (.int 2)) (aCons (fC (.int 6)) (aCons (fC (.int 12)) (aCons (fC (.int 12)) (aCons (fC (.int 20)) (aCons (fC (.int 54)) (aCons (fC (.int 72)) aNil)))))))))) (sSeq (sUnp (nT 2 (nsCons (nN 4) (nsCons (nN 5) nsNil))) (fCall 2 F__law_one_of [] (aCons (fVar 0) (aCons (fFrz (oComp (iRange1 (aCons (fC (.int 7)) aNil)) (gN 6) (tVal (f2 gLe (f2 gIx (fVar 3) (fVar 6)) (fVar 1))) (f2 gIx (fVar 2) (fVar 6)) [6])) aNil)))) (sRet (fTup (aCons (fIf (tVal (f2 gEq (fCall 2 F__law_draw [] (aCons (fVar 0) (aCons (fC (.int 2)) aNil))) (fC (.int 0)))) (fCall 2 F__law_letters [] (aCons (fVar 0) (aCons (fVar 4) aNil))) (fSl (fC (.str [97, 98, 99, 100, 101, 102, 103, 104])) oNo (oSo (fVar 4)))) (aCons (fVar 5) aNil)))))))
/-- _law_text(dice, ground, most), slots 0 dice 1 ground 2 most 3 signs 4 found 5 size 6 way 7 word 8 spin -/
def cm__law_text (F__law_draw : FC) (F__law_one_of : FC) : FS := (sSeq (sPar [3, 4] (xCons (xV (fFrz (oCl oList (aCons (f2 gIx (fVar 1) (fC (.int 0))) aNil)))) (xCons (xV (fC (.str []))) xNil))) (sSeq (sAsg 5 (fCall 2 F__law_draw [] (aCons (fVar 0) (aCons (f2 gAdd3 (fVar 2) (fC (.int 1))) aNil)))) (sSeq (sWhile (tVal (f2 gLt (fCl gLen (aCons (fVar 4) aNil)) (fVar 5))) (sSeq (sAsg 6 (fCall 2 F__law_draw [] (aCons (fVar 0) (aCons (fC (.int 4)) aNil)))) (sIf (tVal (f2 gEq (fVar 6) (fC (.int 0)))) (sSeq (sAsg 7 (fM1 gJoin (fC (.str [])) (fFrz (oComp (iRange1 (aCons (f2 gAdd3 (fC (.int 1)) (fCall 2 F__law_draw [] (aCons (fVar 0) (aCons (f2 gIx (fVar 1) (fC (.int 1))) aNil)))) aNil)) (gN 8) tYesD (fCall 2 F__law_one_of [] (aCons (fVar 0) (aCons (fVar 3) aNil))) [8])))) (sAsg 4 (f2 gAdd3 (fVar 4) (f2 gMul (fVar 7) (f2 gAdd3 (fC (.int 1)) (fCall 2 F__law_draw [] (aCons (fVar 0) (aCons (fC (.int 4)) aNil)))))))) (sIf (tVal (f2 gEq (fVar 6) (fC (.int 1)))) (sAsg 4 (f2 gAdd3 (fVar 4) (f2 gMul (f2 gIx (fVar 3) (fC (.int 0))) (f2 gAdd3 (fC (.int 1)) (fCall 2 F__law_draw [] (aCons (fVar 0) (aCons (fC (.int 3)) aNil))))))) (sAsg 4 (f2 gAdd3 (fVar 4) (fM1 gJoin (fC (.str [])) (fFrz (oComp (iRange1 (aCons (f2 gAdd3 (fC (.int 1)) (fCall 2 F__law_draw [] (aCons (fVar 0) (aCons (fC (.int 4)) aNil)))) aNil)) (gN 8) tYesD (fCall 2 F__law_one_of [] (aCons (fVar 0) (aCons (fVar 3) aNil))) [8]))))))))) (sRet (fSl (fVar 4) oNo (oSo (fVar 5)))))))
end DL

/-! ## Com -/
/-! Com: defs that many laws share: contracts and their proofs -/
namespace DL
open PySem L2
/-! ### words -/
def isWh (d : D) : Bool := isiD .int d && !isiD .bool d
@[simp] theorem isWh_int (i : Int) : isWh (.int i) = true := rfl
def isCnt (d e : D) : Bool := isWh d && match d, e with
  | .int i, .int j => decide (0 ≤ i) && decide (i ≤ j)
  | .int i, _ => decide (0 ≤ i)
  | _, _ => false
@[simp] theorem isCnt_non (i : Int) : isCnt (.int i) .non = decide (0 ≤ i) := rfl
@[simp] theorem isCnt_int (i j : Int) : isCnt (.int i) (.int j) = (decide (0 ≤ i) && decide (i ≤ j)) := rfl
def low (s : List Nat) : Bool := s.all fun c => decide (97 ≤ c) && decide (c ≤ 122)
def isTx : D → Bool
  | .str s => low s
  | _ => false
@[simp] theorem isTx_str (s : List Nat) : isTx (.str s) = low s := rfl
def isWd : D → Bool
  | .str s => low s && !s.isEmpty
  | _ => false
@[simp] theorem isWd_str (s : List Nat) : isWd (.str s) = (low s && !s.isEmpty) := rfl
def F_is_whole : FC := fun ds n Q => ∃ d, ds = [d] ∧ hasTy d = true ∧ Q (.val (.bl (isWh d))) n
def F_is_count : FC := fun ds n Q => ∃ d e, ds = [d, e] ∧ hasTy d = true ∧ (e = .non ∨ ∃ j, e = .int j) ∧ Q (.val (.bl (isCnt d e))) n
def F_is_text : FC := fun ds n Q => ∃ d, ds = [d] ∧ hasTy d = true ∧ Q (.val (.bl (isTx d))) n
def F_is_word : FC := fun ds n Q => ∃ d, ds = [d] ∧ plain 64 d = true ∧ Q (.val (.bl (isWd d))) n
def F_check_text : FC := fun ds n Q => ∃ s, ds = [.str s] ∧ low s = true ∧ Q (.val .non) n
def F_check_word : FC := fun ds n Q => ∃ s, ds = [.str s] ∧ low s = true ∧ s ≠ [] ∧ Q (.val .non) n
def F_check_from : FC := fun ds n Q => ∃ i l : Int, ds = [.int i, .int l] ∧ 0 ≤ i ∧ l ≤ i ∧ Q (.val .non) n
theorem law_is_whole : ∀ ds n Q, F_is_whole ds n Q → ds.length = 1 → cm_is_whole { nx := fun _ m => Q (.val .non) m, rt := Q } (startE 0 ds) n := by
  rintro ds n Q ⟨d, rfl, h1, h⟩ _
  cases d <;> simp [cm_is_whole, isWh] at h1 h ⊢ <;> exact h
theorem isWh_iff {d : D} (h : isWh d = true) : ∃ i, d = .int i := by
  cases d <;> simp [isWh] at h
  exact ⟨_, rfl⟩
theorem law_is_count : ∀ ds n Q, F_is_count ds n Q → ds.length = 2 → cm_is_count F_is_whole { nx := fun _ m => Q (.val .non) m, rt := Q } (startE 0 ds) n := by
  rintro ds n Q ⟨d, e, rfl, h1, h2, h⟩ _
  by_cases hw : isWh d = true
  · obtain ⟨i, rfl⟩ := isWh_iff hw
    simp [cm_is_count]
    refine ⟨_, rfl, rfl, ?_⟩
    rcases h2 with rfl | ⟨j, rfl⟩
    · by_cases hi : 0 ≤ i <;> simp [hi] at h ⊢ <;> exact h
    · by_cases hi : 0 ≤ i <;> simp [hi] at h ⊢ <;> exact h
  · simp at hw
    have : isCnt d e = false := by
      unfold isCnt
      rw [hw]; rfl
    rw [this] at h
    simp [cm_is_count]
    refine ⟨d, rfl, h1, ?_⟩
    simp [hw]
    exact h
@[simp] theorem lt1 (a b : Nat) : ([a] < [b]) = (a < b) := by simp [List.cons_lt_cons_iff]
@[simp] theorem le1 (a b : Nat) : ([a] ≤ [b]) = (a ≤ b) := by
  show (¬ [b] < [a]) = _
  simp
theorem law_is_text : ∀ ds n Q, F_is_text ds n Q → ds.length = 1 → cm_is_text { nx := fun _ m => Q (.val .non) m, rt := Q } (startE 1 ds) n := by
  rintro ds n Q ⟨d, rfl, h1, h⟩ _
  cases d with
  | str s =>
    simp [cm_is_text]
    refine goD_map (fun c => .bl (decide (97 ≤ c) && decide (c ≤ 122))) (fun c hc m K hK => ?_) ?_
    · simp [stepD]
      by_cases g1 : 97 ≤ c
      · rw [if_pos g1]
        by_cases g2 : c ≤ 122
        · have : ¬ 122 < c := by omega
          simpa [g1, g2, this] using hK
        · have : 122 < c := by omega
          simpa [g1, g2, this] using hK
      · rw [if_neg g1]
        simpa [g1] using hK
    · refine ⟨s.map fun c => decide (97 ≤ c) && decide (c ≤ 122), by rw [List.map_map]; rfl, ?_⟩
      simpa [isTx, low, List.all_map, Function.comp_def] using h
  | _ => simp [cm_is_text] at h1 ⊢ <;> simpa [isTx] using h
theorem law_is_word : ∀ ds n Q, F_is_word ds n Q → ds.length = 1 → cm_is_word F_is_text { nx := fun _ m => Q (.val .non) m, rt := Q } (startE 0 ds) n := by
  rintro ds n Q ⟨d, rfl, h1, h⟩ _
  simp [cm_is_word]
  refine ⟨d, rfl, by cases d <;> simp at h1 ⊢, ?_⟩
  cases d with
  | str s =>
    by_cases hl : low s = true
    · simp [hl]
      cases s with
      | nil => simpa [hl] using h
      | cons => simpa [hl] using h
    · simp [hl] at h ⊢
      exact h
  | _ => simp [isTx] ; simpa [isWd] using h
theorem law_check_text : ∀ ds n Q, F_check_text ds n Q → ds.length = 1 → cm_check_text F_is_text { nx := fun _ m => Q (.val .non) m, rt := Q } (startE 0 ds) n := by
  rintro ds n Q ⟨s, rfl, h1, h⟩ _
  simp [cm_check_text]
  exact ⟨_, rfl, rfl, by simp [h1, h]⟩
theorem law_check_word : ∀ ds n Q, F_check_word ds n Q → ds.length = 1 → cm_check_word F_is_word { nx := fun _ m => Q (.val .non) m, rt := Q } (startE 0 ds) n := by
  rintro ds n Q ⟨s, rfl, h1, h2, h⟩ _
  simp [cm_check_word]
  refine ⟨_, rfl, by simp, ?_⟩
  simp [h1, h, h2]
theorem law_check_from : ∀ ds n Q, F_check_from ds n Q → ds.length = 2 → cm_check_from F_is_count { nx := fun _ m => Q (.val .non) m, rt := Q } (startE 0 ds) n := by
  rintro ds n Q ⟨i, l, rfl, h1, h2, h⟩ _
  simp [cm_check_from]
  refine ⟨_, _, rfl, rfl, .inl rfl, ?_⟩
  simp [h1]
  exact ⟨h2, h⟩
end DL

/-! ## ComB -/
/-! Com2: letters and texts drawn by the laws -/
namespace DL
open PySem L2 PyProof.Rows
def ABC : List Nat := [97, 98, 99, 100, 101, 102, 103, 104, 105, 106, 107, 108, 109, 110, 111, 112, 113, 114, 115, 116, 117, 118, 119, 120, 121, 122]
theorem abc_low : ∀ c ∈ ABC, 97 ≤ c ∧ c ≤ 122 := by decide
theorem abc_len : ABC.length = 26 := rfl
theorem abc_nodup : ABC.Nodup := by decide
theorem low_iff {s : List Nat} : low s = true ↔ ∀ c ∈ s, 97 ≤ c ∧ c ≤ 122 := by simp [low]
theorem nodup_le : ∀ {xs ys : List Nat}, xs.Nodup → (∀ x ∈ xs, x ∈ ys) → xs.length ≤ ys.length
  | [], _, _, _ => Nat.zero_le _
  | x :: xs, ys, h, hs => by
    have h1 := List.nodup_cons.mp h
    have hx := hs x (List.mem_cons_self ..)
    have h2 := nodup_le (ys := ys.erase x) h1.2 (fun z hz => by
      have hne : z ≠ x := fun e => by subst e; exact h1.1 hz
      exact (List.mem_erase_of_ne hne).mpr (hs z (List.mem_cons_of_mem _ hz)))
    rw [List.length_erase_of_mem hx] at h2
    have := List.length_pos_of_mem hx
    rw [List.length_cons]
    omega
theorem eq_one (cs : List Nat) (c : Nat) : ((cs.map fun c => D.str [c]).any fun y => eqD y (.str [c])) = decide (c ∈ cs) := by
  induction cs with
  | nil => rfl
  | cons x cs ih =>
    rw [List.map_cons, List.any_cons, ih]
    by_cases h : x = c
    · subst h; simp
    · have : ¬ c = x := fun e => h e.symm
      simp [h, this]
theorem flat_one (cs : List Nat) : (cs.map fun c => D.str [c]).all flatD = true := by
  induction cs with
  | nil => rfl
  | cons x cs ih => rw [List.map_cons, List.all_cons, ih]; rfl
theorem lt_cps (a b : Nat) : Spec.ltCps [a] [b] = decide (a < b) := by
  simp [Spec.ltCps]
theorem rising_lt : ∀ (cs : List Nat) (p : Nat), risingS ⟨[p].toArray⟩ (cs.map fun c => (⟨[c].toArray⟩ : Str)) = true → (p :: cs).Pairwise (· ≤ ·)
  | [], p, _ => by simp
  | c :: cs, p, h => by
    rw [List.map_cons] at h
    unfold risingS at h
    simp only [Bool.and_eq_true, Bool.not_eq_true'] at h
    have h1 : ¬ c < p := by
      have := h.1
      rw [show Spec.ltCps (⟨[c].toArray⟩ : Str).cps.toList (⟨[p].toArray⟩ : Str).cps.toList = decide (c < p) from lt_cps c p] at this
      simpa using this
    have ih := rising_lt cs c h.2
    refine List.pairwise_cons.mpr ⟨fun z hz => ?_, ih⟩
    rcases List.mem_cons.mp hz with rfl | hz
    · omega
    · have := (List.pairwise_cons.mp ih).1 z hz
      omega
theorem sorted_lt {cs : List Nat} (h : sortedS (cs.map fun c => (⟨[c].toArray⟩ : Str)) = true) (hn : cs.Nodup) : cs.Pairwise (· < ·) := by
  have h1 : cs.Pairwise (· ≤ ·) := by
    cases cs with
    | nil => exact .nil
    | cons c cs => exact rising_lt cs c h
  have := h1.and hn
  exact this.imp fun ⟨a, b⟩ => by omega
theorem joinL_nil : ∀ ss : List (List Nat), joinL [] ss = ss.flatten
  | [] => rfl
  | [s] => by simp [joinL]
  | s :: t :: r => by
    have := joinL_nil (t :: r)
    simp [joinL, this]
theorem flat_ones (cs : List Nat) : (cs.map fun c => [c]).flatten = cs := by
  induction cs with
  | nil => rfl
  | cons c cs ih => rw [List.map_cons, List.flatten_cons, ih]; rfl
theorem sum_ones (ds : List Nat) : ((ds.map fun c => [c]).map List.length).sum = ds.length := by
  induction ds with
  | nil => rfl
  | cons d ds ih => rw [List.map_cons, List.map_cons, List.sum_cons, ih, List.length_cons, List.length_cons, List.length_nil]; omega
theorem perm_ones {ts : List (List Nat)} {cs : List Nat} (h : ts.Perm (cs.map fun c => [c])) : ∃ ds : List Nat, ts = ds.map (fun c => [c]) ∧ ds.Perm cs := by
  refine ⟨ts.flatten, ?_, ?_⟩
  · have : ∀ t ∈ ts, ∃ c, t = [c] := fun t ht => by
      obtain ⟨c, _, e⟩ := List.mem_map.mp (h.mem_iff.mp ht)
      exact ⟨c, e.symm⟩
    clear h
    induction ts with
    | nil => rfl
    | cons t ts ih =>
      obtain ⟨c, rfl⟩ := this t (List.mem_cons_self ..)
      have ih := ih fun t ht => this t (List.mem_cons_of_mem _ ht)
      rw [List.flatten_cons, List.map_append, ← ih]; rfl
  · have := h.flatten
    rw [flat_ones] at this
    exact this
/-- join over single signs -/
theorem join_ones {cs : List Nat} {n : Nat} {Q : D → Nat → Prop} (hl : cs.length ≤ 16777216) (h : Q (.str cs) n) : gJoin (.str []) (.lst ((cs.map fun c => [c]).map D.str)) n Q := by
  refine ⟨[], _, rfl, .inl rfl, ?_, by rw [joinL_nil, flat_ones]; exact h⟩
  rw [sum_ones]
  simp
  exact hl
theorem join_of {ss : List (List Nat)} {n : Nat} {Q : D → Nat → Prop} (hl : (ss.map List.length).sum ≤ 16777216) (h : Q (.str ss.flatten) n) : gJoin (.str []) (.lst (ss.map D.str)) n Q := by
  refine ⟨[], _, rfl, .inl rfl, ?_, by rw [joinL_nil]; exact h⟩
  simpa using hl
/-- letters: so many, in order, no two alike -/
structure Letters (many : Nat) (s : List Nat) : Prop where
  len : s.length = many
  low : low s = true
  inc : s.Pairwise (· < ·)
def F__law_letters : FC := fun ds n Q => ∃ many : Nat, ds = [dice, .int many] ∧ many ≤ 26 ∧ n + DRW * 26 ≤ LIM ∧ ∀ s m, Letters many s → n ≤ m → m ≤ n + DRW * 26 → Q (.val (.str s)) m
theorem law__law_letters : ∀ ds n Q, F__law_letters ds n Q → ds.length = 2 → cm__law_letters F_draw { nx := fun _ m => Q (.val .non) m, rt := Q } (startE 4 ds) n := by
  rintro ds n Q ⟨many, rfl, hm, hn, h⟩ _
  unfold cm__law_letters
  rw [show ([97, 98, 99, 100, 101, 102, 103, 104, 105, 106, 107, 108, 109, 110, 111, 112, 113, 114, 115, 116, 117, 118, 119, 120, 121, 122] : List Nat) = ABC from rfl]
  obtain ⟨A, eA, abc_len, abc_nodup, abc_low⟩ : ∃ A : List Nat, ABC = A ∧ A.length = 26 ∧ A.Nodup ∧ ∀ c ∈ A, 97 ≤ c ∧ c ≤ 122 := ⟨ABC, rfl, abc_len, abc_nodup, abc_low⟩
  rw [eA]
  refine sSeq_of fun next0 hn0 => ?_
  simp
  refine hn0 _ _ ?_
  refine sSeq_of fun next1 hn1 => ?_
  simp
  refine ⟨by omega, ?_⟩
  rw [ups_eq]
  refine forD_inv (fun pre env m => ∃ (cs : List Nat) (x3 x4 : Option Sl), env = [some (.val dice), some (.val (.int many)), some (.own (cs.map fun c => .str [c])), x3, x4, none] ∧ cs.length = pre.length ∧ cs.Nodup ∧ (∀ c ∈ cs, c ∈ A) ∧ n ≤ m ∧ m ≤ n + DRW * pre.length) ?_ ?_ ⟨[], none, none, rfl, rfl, .nil, fun _ h => (nomatch h), Nat.le_refl _, Nat.le_refl _⟩
  · rintro pre a post env m next hx ⟨cs, x3, x4, rfl, hl, hnd, hsub, hm1, hm2⟩ hnext
    obtain ⟨hpl, rfl⟩ := range_pre hx
    simp only [DRW, LIM] at *
    refine sSeq_of fun next2 hn2 => ?_
    simp
    refine ⟨26, rfl, by decide, by decide, by simp only [DRW, LIM]; omega, fun r m2 hr hr' hm3 hm4 => ?_⟩
    simp only [DRW, LIM] at *
    obtain ⟨c, hc, hcm⟩ := atI_ok (xs := A) hr (by rw [abc_len]; exact hr')
    simp
    refine ⟨c, hc, hn2 _ _ ?_⟩
    simp
    have fin : ∀ d, d ∈ A → d ∉ cs → ∀ e, e = [some (.val dice), some (.val (.int many)), some (.own ((cs ++ [d]).map fun c => .str [c])), some (.val (.int (pre.length : Int))), some (.val (.str [c])), none] → next e m2 := fun d hd hd2 e he => by
      refine hnext _ _ ⟨cs ++ [d], _, _, he, by simp [hl], ?_, ?_, by omega, by simp; omega⟩
      · refine List.nodup_append.mpr ⟨hnd, by simp, ?_⟩
        intro x hx y hy e
        simp at hy
        subst hy e
        exact hd2 hx
      · intro x hx
        rcases List.mem_append.mp hx with h1 | h1
        · exact hsub x h1
        · simp at h1; subst h1; exact hd
    by_cases hcs : c ∈ cs
    · rw [if_pos hcs]
      refine goD_filter (fun d => decide (d ∉ cs)) (fun d => .str [d]) (fun d hd k K hT hF => ?_) ?_
      · simp [stepD]
        by_cases hdc : d ∈ cs
        · rw [if_pos hdc]; exact hF (by simpa using hdc)
        · rw [if_neg hdc]; exact hT (by simpa using hdc)
      · obtain ⟨d, hd, hdc⟩ : ∃ d, d ∈ A ∧ d ∉ cs := by
          refine Classical.byContradiction fun hno => ?_
          have : A.length ≤ cs.length := nodup_le abc_nodup fun d hd => Classical.byContradiction fun hc => hno ⟨d, hd, hc⟩
          have e26 := abc_len
          omega
        have hne : d ∈ A.filter (fun d => decide (d ∉ cs)) := List.mem_filter.mpr ⟨hd, by simpa using hdc⟩
        cases hf : A.filter (fun d => decide (d ∉ cs)) with
        | nil => rw [hf] at hne; cases hne
        | cons e es =>
          have he : e ∈ A.filter (fun d => decide (d ∉ cs)) := by rw [hf]; simp
          have he := List.mem_filter.mp he
          simp
          refine ⟨_, by rw [show (0 : Int) = ((0 : Nat) : Int) from rfl]; exact atI_nat' rfl, rfl, by omega, ?_⟩
          exact fin e he.1 (by simpa using he.2) _ (by simp)
    · rw [if_neg hcs]
      refine ⟨by omega, ?_⟩
      exact fin c hcm hcs _ (by simp)
  · rintro env m ⟨cs, x3, x4, rfl, hl, hnd, hsub, hm1, hm2⟩
    refine hn1 _ _ ?_
    simp at hl hm2
    simp
    refine .inl ⟨cs.map fun c => [c], by simp, by simp; omega, fun ts hp hs => ?_⟩
    obtain ⟨ds, rfl, hd⟩ := perm_ones hp
    rw [List.map_map] at hs
    have hs := sorted_lt (cs := ds) hs (hd.nodup_iff.mpr hnd)
    refine join_ones (cs := ds) (by rw [hd.length_eq]; omega) ?_
    refine ⟨rfl, ?_⟩
    refine h ds m ⟨by rw [hd.length_eq, hl], low_iff.mpr fun c hc => abc_low c (hsub c (hd.mem_iff.mp hc)), hs⟩ hm1 (by simp only [DRW] at *; omega)
theorem ones_of {P : Nat → Prop} : ∀ {ys : List D}, (∀ y ∈ ys, ∃ c : Nat, y = .str [c] ∧ P c) → ∃ cs : List Nat, ys = (cs.map fun c => [c]).map D.str ∧ ∀ c ∈ cs, P c
  | [], _ => ⟨[], rfl, fun _ h => nomatch h⟩
  | y :: ys, h => by
    obtain ⟨r, rfl, hr⟩ := h y (List.mem_cons_self ..)
    obtain ⟨rs, rfl, hrs⟩ := ones_of (fun y hy => h y (List.mem_cons_of_mem _ hy))
    refine ⟨r :: rs, rfl, fun x hx => ?_⟩
    rcases List.mem_cons.mp hx with rfl | hx
    · exact hr
    · exact hrs x hx
def F__law_any_text : FC := fun ds n Q => ∃ most : Nat, ds = [dice, .int most] ∧ most ≤ 100000 ∧ n + DRW * 200000 ≤ LIM ∧ ∀ s m, low s = true → s.length ≤ most → n ≤ m → m ≤ n + DRW * 200000 → Q (.val (.str s)) m
theorem law__law_any_text : ∀ ds n Q, F__law_any_text ds n Q → ds.length = 2 → cm__law_any_text F_draw F__law_letters F_one_of { nx := fun _ m => Q (.val .non) m, rt := Q } (startE 2 ds) n := by
  rintro ds n Q ⟨most, rfl, hm, hn, h⟩ _
  unfold cm__law_any_text
  simp only [DRW, LIM] at *
  refine sSeq_of fun next0 hn0 => ?_
  simp
  refine ⟨5, rfl, by decide, by decide, by simp only [DRW, LIM]; omega, fun r m1 hr hr' h1 h2 => ?_⟩
  simp only [DRW, LIM] at *
  simp
  refine ⟨(1 + r).toNat, by simp; omega, by omega, by simp only [DRW, LIM]; omega, fun s m2 hs h3 h4 => ?_⟩
  simp only [DRW, LIM] at *
  simp
  refine hn0 _ _ ?_
  simp
  refine ⟨most + 1, rfl, by omega, ?_, by simp only [DRW, LIM]; omega, fun q m3 hq hq' h5 h6 => ?_⟩
  · have h3 : ((most : Int) + 1).natAbs < 2 ^ 30 := by omega
    have := (Nat.log2_lt (by omega)).mpr h3
    omega
  simp only [DRW, LIM] at *
  simp
  refine ⟨by omega, ?_⟩
  rw [ups_eq]
  have hsl := hs.len
  refine goD_draws DRW (fun y => ∃ c : Nat, y = .str [c] ∧ 97 ≤ c ∧ c ≤ 122) LIM (by simp only [DRW, LIM]; simp; omega) (fun a ha m K hm hK => ?_) fun ys m4 h7 h8 hys hyl => ?_
  · simp [stepD]
    refine ⟨_, rfl, by simp; intro e; rw [e] at hsl; simp at hsl; omega, by simp; omega, hm, fun x m5 hx hx1 hx2 => ?_⟩
    obtain ⟨c, hc, rfl⟩ := List.mem_map.mp hx
    exact hK _ _ hx1 hx2 ⟨c, rfl, low_iff.mp hs.low c hc⟩
  · obtain ⟨cs, rfl, hcs⟩ := ones_of hys
    simp only [DRW] at h8
    simp at hyl h8
    refine join_ones (cs := cs) (by omega) ?_
    exact h cs m4 (low_iff.mpr hcs) (by omega) (by omega) (by omega)
end DL

/-! ## ComC -/
/-! ComC: grounds and texts drawn by the laws -/
namespace DL
open PySem L2 PyProof.Rows
/-- single signs drawn out of some -/
theorem draw_ones {s : List Nat} {a1 a2 a4 a5 a6 a7 a8 : Option D} {k n : Nat} {lo : Int} {Q : List D → Nat → Prop} (hs : s ≠ []) (hsl : s.length ≤ 1000) (hB : n + DRW * k ≤ LIM) (hQ : ∀ (cs : List Nat) m, (∀ c ∈ cs, c ∈ s) → cs.length = k → n ≤ m → m ≤ n + DRW * k → Q ((cs.map fun c => [c]).map D.str) m) :
    goD (gN 8) tYesD (fCall 2 F_one_of [] (aCons (fVar 0) (aCons (fVar 3) aNil))) [some dice, a1, a2, some (.lst (s.map fun c => .str [c])), a4, a5, a6, a7, a8] (ups lo k) n Q := by
  rw [ups_eq]
  refine goD_draws DRW (fun y => ∃ c : Nat, y = .str [c] ∧ c ∈ s) LIM (by simpa using hB) (fun a ha m K hm hK => ?_) fun ys m h1 h2 hys hyl => ?_
  · simp [stepD]
    refine ⟨_, rfl, by simpa using hs, by simp; omega, hm, fun x m5 hx hx1 hx2 => ?_⟩
    obtain ⟨c, hc, rfl⟩ := List.mem_map.mp hx
    exact hK _ _ hx1 hx2 ⟨c, rfl, hc⟩
  · obtain ⟨cs, rfl, hcs⟩ := ones_of hys
    simp at hyl h2
    exact hQ cs m hcs hyl h1 h2
theorem rep_mem {s w : List Nat} {k : Nat} (h : ∀ c ∈ w, c ∈ s) : ∀ c ∈ (List.replicate k w).flatten, c ∈ s := fun c hc => by
  obtain ⟨l, hl, hc⟩ := List.mem_flatten.mp hc
  rw [(List.mem_replicate.mp hl).2] at hc
  exact h c hc
theorem rep_len {w : List Nat} {k : Nat} : (List.replicate k w).flatten.length = k * w.length := by simp
def F__law_text : FC := fun ds n Q => ∃ (s : List Nat) (g most : Nat), ds = [dice, .tup [.str s, .int g], .int most] ∧ s ≠ [] ∧ s.length ≤ 26 ∧ 1 ≤ g ∧ g ≤ 100 ∧ most ≤ 100000 ∧ n + DRW * 100000000 ≤ LIM ∧
  ∀ (t : List Nat) m, (∀ c ∈ t, c ∈ s) → t.length ≤ most → n ≤ m → m ≤ n + DRW * 100000000 → Q (.val (.str t)) m
theorem law__law_text : ∀ ds n Q, F__law_text ds n Q → ds.length = 3 → cm__law_text F_draw F_one_of { nx := fun _ m => Q (.val .non) m, rt := Q } (startE 6 ds) n := by
  rintro ds n Q ⟨s, g, most, rfl, hs, hsl, hg1, hg2, hm, hn, h⟩ _
  simp only [DRW, LIM] at *
  unfold cm__law_text
  refine sSeq_of fun next0 hn0 => ?_
  simp
  refine ⟨_, by rw [show (0 : Int) = ((0 : Nat) : Int) from rfl]; exact atI_nat' rfl, ?_⟩
  simp
  refine hn0 _ _ ?_
  refine sSeq_of fun next1 hn1 => ?_
  simp
  refine ⟨(most : Int) + 1, rfl, by omega, ?_, by simp only [DRW, LIM]; omega, fun size0 m1 hz1 hz2 hm1 hm2 => ?_⟩
  · have h3 : ((most : Int) + 1).natAbs < 2 ^ 30 := by omega
    have := (Nat.log2_lt (by omega)).mpr h3
    omega
  obtain ⟨size, rfl⟩ : ∃ size : Nat, size0 = size := ⟨size0.toNat, by omega⟩
  simp only [DRW] at hm2
  simp
  refine hn1 _ _ ?_
  refine sSeq_of fun next2 hn2 => ?_
  unfold sWhile
  refine ⟨fun k env j => ∃ (found : List Nat) (x6 x7 : Option Sl), env = [some (.val dice), some (.val (.tup [.str s, .int g])), some (.val (.int most)), some (.val (.lst (s.map fun c => .str [c]))), some (.val (.str found)), some (.val (.int size)), x6, x7, none] ∧ k = size - found.length ∧ (∀ c ∈ found, c ∈ s) ∧ n ≤ j ∧ j + 80000 * k ≤ n + 400 + 80000 * size, ⟨size, [], none, none, rfl, by simp, fun _ h => (nomatch h), by omega, by omega⟩, ?_⟩
  rintro k env j ⟨found, x6, x7, rfl, rfl, hf, hj1, hj2⟩
  by_cases hlt : found.length < size
  · simp [hlt]
    refine sSeq_of fun next3 hn3 => ?_
    simp
    refine ⟨4, rfl, by decide, by decide, by simp only [DRW, LIM]; omega, fun way m3 hw1 hw2 hm3 hm4 => ?_⟩
    simp only [DRW] at hm4
    simp
    refine hn3 _ _ ?_
    have fin : ∀ (w : List Nat) (j2 : Nat), (∀ c ∈ w, c ∈ s) → 1 ≤ w.length → j ≤ j2 → j2 ≤ j + 400 * 200 → ∃ k' < size - found.length, k' = size - (found.length + w.length) ∧ (∀ c, c ∈ found ∨ c ∈ w → c ∈ s) ∧ n ≤ j2 ∧ j2 + 80000 * k' ≤ n + 400 + 80000 * size := by
      intro w j2 hw hw1 hj3 hj4
      refine ⟨_, by omega, rfl, fun c hc => ?_, by omega, by omega⟩
      rcases hc with hc | hc
      · exact hf c hc
      · exact hw c hc
    by_cases hw0 : way = 0
    · simp [hw0]
      refine sSeq_of fun next4 hn4 => ?_
      simp
      refine ⟨_, by rw [show (1 : Int) = ((1 : Nat) : Int) from rfl]; exact atI_nat' rfl, ?_⟩
      refine ⟨g, rfl, by omega, ?_, by simp only [DRW, LIM]; omega, fun q m4 hq1 hq2 hm5 hm6 => ?_⟩
      · have h3 : ((g : Int)).natAbs < 2 ^ 30 := by omega
        have := (Nat.log2_lt (by omega)).mpr h3
        omega
      simp only [DRW] at hm6
      simp
      refine ⟨⟨by omega, by omega⟩, ?_⟩
      refine draw_ones hs (by omega) (by simp only [DRW, LIM]; omega) fun cs m5 hcs hcl hm7 hm8 => ?_
      simp only [DRW] at hm8
      refine join_ones (cs := cs) (by omega) ?_
      refine hn4 _ _ ?_
      simp
      refine ⟨4, rfl, by decide, by decide, by simp only [DRW, LIM]; omega, fun t m6 ht1 ht2 hm9 hm10 => ?_⟩
      simp only [DRW] at hm10
      have hl : sizeLine = 16777216 := PySem.sizeLine_eq
      have e2 : (1 + t).toNat * cs.length ≤ 4 * 101 := Nat.mul_le_mul (by omega) (by omega)
      have e3 : cs.length * (1 + t).toNat = (1 + t).toNat * cs.length := Nat.mul_comm _ _
      have := fin (List.replicate (1 + t).toNat cs).flatten m6 (rep_mem hcs) (by rw [rep_len]; exact Nat.mul_pos (by omega) (by omega)) (by omega) (by omega)
      rw [rep_len] at this
      simp
      refine ⟨⟨by omega, by omega, by omega⟩, by omega, ?_⟩
      simpa using this
    · by_cases hw1 : way = 1
      · simp [hw0, hw1]
        obtain ⟨c0, cs, rfl⟩ : ∃ c0 cs, s = c0 :: cs := by
          cases s with
          | nil => exact absurd rfl hs
          | cons a b => exact ⟨a, b, rfl⟩
        refine ⟨_, by rw [show (0 : Int) = ((0 : Nat) : Int) from rfl]; exact atI_nat' rfl, ?_⟩
        refine ⟨3, rfl, by decide, by decide, by simp only [DRW, LIM]; omega, fun t m6 ht1 ht2 hm9 hm10 => ?_⟩
        simp only [DRW] at hm10
        have hl : sizeLine = 16777216 := PySem.sizeLine_eq
        simp
        refine ⟨⟨by omega, by omega, by omega⟩, by omega, ?_⟩
        refine ⟨_, by omega, rfl, fun c hc => ?_, by omega, by omega⟩
        rcases hc with hc | hc
        · simpa using hf c hc
        · exact .inl hc.2
      · simp [hw0, hw1]
        refine ⟨4, rfl, by decide, by decide, by simp only [DRW, LIM]; omega, fun q m4 hq1 hq2 hm5 hm6 => ?_⟩
        simp only [DRW] at hm6
        simp
        refine ⟨⟨by omega, by omega⟩, ?_⟩
        refine draw_ones hs (by omega) (by simp only [DRW, LIM]; omega) fun cs m5 hcs hcl hm7 hm8 => ?_
        simp only [DRW] at hm8
        refine join_ones (cs := cs) (by omega) ?_
        simp
        refine ⟨by omega, fin cs m5 hcs (by omega) (by omega) (by omega)⟩
  · simp [hlt]
    refine hn2 _ _ ?_
    simp
    have e : cutL found none (some (size : Int)) = found.take size := by
      unfold cutL
      have : HT.sIx found.length found.length (some (size : Int)) = min size found.length := HT.sIx_nat _ _ _
      rw [this]
      show (found.drop 0).take (min size found.length - 0) = _
      rw [List.drop_zero, Nat.sub_zero, Nat.min_eq_left (by omega)]
    rw [e]
    refine h _ _ (fun c hc => hf c (List.mem_of_mem_take hc)) (by rw [List.length_take]; omega) hj1 (by omega)
end DL

/-! ## ComD -/
/-! ComD: grounds drawn by the laws -/
namespace DL
open PySem L2 PyProof.Rows
/-- sizes of grounds: signs, gap, how many orders -/
def GL : List (Nat × Nat × Nat) := [(2, 2, 2), (3, 2, 6), (2, 3, 12), (4, 2, 12), (5, 2, 20), (2, 4, 54), (3, 3, 72)]
structure Gnd (most : Int) (s : List Nat) (g : Nat) : Prop where
  let_ : Letters s.length s
  sz : ∃ q ∈ GL, q.1 = s.length ∧ q.2.1 = g ∧ (q.2.2 : Int) ≤ most
theorem Gnd.two {most : Int} {s : List Nat} {g : Nat} (h : Gnd most s g) : 2 ≤ s.length ∧ s.length ≤ 5 ∧ 2 ≤ g ∧ g ≤ 4 := by
  obtain ⟨q, hq, h1, h2, _⟩ := h.sz
  rw [← h1, ← h2]
  have : ∀ q ∈ GL, 2 ≤ q.1 ∧ q.1 ≤ 5 ∧ 2 ≤ q.2.1 ∧ q.2.1 ≤ 4 := by decide
  exact this q hq
def F__law_ground : FC := fun ds n Q => ∃ most : Int, ds = [dice, .int most] ∧ 2 ≤ most ∧ n + DRW * 100 ≤ LIM ∧ ∀ s g m, Gnd most s g → n ≤ m → m ≤ n + DRW * 100 → Q (.val (.tup [.str s, .int (g : Nat)])) m
theorem letters_abc : ∀ k ≤ 8, Letters k ([97, 98, 99, 100, 101, 102, 103, 104].take k) := by
  intro k hk
  refine ⟨by simp; omega, low_iff.mpr fun c hc => ?_, ?_⟩
  · have := List.mem_of_mem_take hc
    simp at this
    omega
  · exact (by decide : ([97, 98, 99, 100, 101, 102, 103, 104] : List Nat).Pairwise (· < ·)).take
theorem law__law_ground : ∀ ds n Q, F__law_ground ds n Q → ds.length = 2 → cm__law_ground F_draw F__law_letters F_one_of { nx := fun _ m => Q (.val .non) m, rt := Q } (startE 5 ds) n := by
  rintro ds n Q ⟨most, rfl, hm, hn, h⟩ _
  simp only [DRW, LIM] at *
  unfold cm__law_ground
  refine sSeq_of fun next0 hn0 => ?_
  simp
  refine ⟨by decide, by decide, hn0 _ _ ?_⟩
  refine sSeq_of fun next1 hn1 => ?_
  simp
  refine ⟨by decide, hn1 _ _ ?_⟩
  obtain ⟨L, eL, hl, hlo⟩ : ∃ L : List (Nat × Nat × Nat), GL = L ∧ L.length = 7 ∧ (2, 2, 2) ∈ L := ⟨GL, rfl, rfl, by decide⟩
  have e1 : [D.tup [D.int 2, D.int 2], D.tup [D.int 3, D.int 2], D.tup [D.int 2, D.int 3], D.tup [D.int 4, D.int 2], D.tup [D.int 5, D.int 2], D.tup [D.int 2, D.int 4], D.tup [D.int 3, D.int 3]] = L.map fun q => D.tup [.int (q.1 : Nat), .int (q.2.1 : Nat)] := by rw [← eL]; rfl
  have e2 : [D.int 2, D.int 6, D.int 12, D.int 12, D.int 20, D.int 54, D.int 72] = L.map fun q => D.int (q.2.2 : Nat) := by rw [← eL]; rfl
  rw [e1, e2]
  refine sSeq_of fun next2 hn2 => ?_
  simp
  rw [ups_eq]
  refine goD_filter (fun i : Nat => decide (((L.getD i (0, 0, 0)).2.2 : Int) ≤ most)) (fun i : Nat => D.tup [.int ((L.getD i (0, 0, 0)).1 : Nat), .int ((L.getD i (0, 0, 0)).2.1 : Nat)]) (fun i hi m K hT hF => ?_) ?_
  · have hi : i < 7 := List.mem_range.mp hi
    have g1 : atI (L.map fun q => D.int (q.2.2 : Nat)) (i : Int) = some (.int ((L.getD i (0, 0, 0)).2.2 : Nat)) := by
      refine atI_nat' ?_
      rw [List.getElem?_map, List.getElem?_eq_getElem (by omega), List.getD_eq_getElem?_getD, List.getElem?_eq_getElem (by omega)]
      rfl
    have g2 : atI (L.map fun q => D.tup [.int (q.1 : Nat), .int (q.2.1 : Nat)]) (i : Int) = some (D.tup [.int ((L.getD i (0, 0, 0)).1 : Nat), .int ((L.getD i (0, 0, 0)).2.1 : Nat)]) := by
      refine atI_nat' ?_
      rw [List.getElem?_map, List.getElem?_eq_getElem (by omega), List.getD_eq_getElem?_getD, List.getElem?_eq_getElem (by omega)]
      rfl
    simp [stepD]
    refine ⟨_, g1, ?_⟩
    by_cases hc : ((L.getD i (0, 0, 0)).2.2 : Int) ≤ most
    · simp only [List.getD_eq_getElem?_getD] at hc hT ⊢
      simp [hc] at hT ⊢
      refine ⟨_, g2, ?_⟩
      simpa using hT
    · simp only [List.getD_eq_getElem?_getD] at hc hF ⊢
      simp [hc] at hF ⊢
      exact hF
  refine ⟨_, rfl, ?_, ?_, by simp only [DRW, LIM]; omega, fun x m hx hm1 hm2 => ?_⟩
  · obtain ⟨i, hi, e⟩ := List.getElem_of_mem hlo
    intro hno
    have hmem : i ∈ (List.range 7).filter (fun i : Nat => decide (((L.getD i (0, 0, 0)).2.2 : Int) ≤ most)) := List.mem_filter.mpr ⟨List.mem_range.mpr (by omega), by
      rw [List.getD_eq_getElem?_getD, List.getElem?_eq_getElem hi]
      simp [e]; omega⟩
    rw [List.map_eq_nil_iff] at hno
    rw [hno] at hmem
    cases hmem
  · have := List.length_filter_le (fun i : Nat => decide (((L.getD i (0, 0, 0)).2.2 : Int) ≤ most)) (List.range 7)
    rw [List.length_range] at this
    rw [List.length_map]
    omega
  obtain ⟨i, hi, rfl⟩ := List.mem_map.mp hx
  obtain ⟨hi1, hi2⟩ := List.mem_filter.mp hi
  have hi1 : i < 7 := List.mem_range.mp hi1
  simp only [decide_eq_true_eq] at hi2
  obtain ⟨⟨a, b, c⟩, hq, eq⟩ : ∃ q, q ∈ L ∧ L.getD i (0, 0, 0) = q := ⟨L[i], List.getElem_mem _, by rw [List.getD_eq_getElem?_getD, List.getElem?_eq_getElem (by omega)]; rfl⟩
  rw [eq] at hi2 ⊢
  simp only [DRW] at hm2
  have hall : ∀ q ∈ L, 2 ≤ q.1 ∧ q.1 ≤ 5 := by rw [← eL]; decide
  have ha := hall _ hq
  simp only at ha
  simp
  refine hn2 _ _ ?_
  simp
  refine ⟨2, rfl, by decide, by decide, by simp only [DRW, LIM]; omega, fun r m3 hr1 hr2 hm3 hm4 => ?_⟩
  simp only [DRW] at hm4
  by_cases hr : r = 0
  · simp [hr]
    refine ⟨a, by simp, by omega, by simp only [DRW, LIM]; omega, fun s m4 hs hm5 hm6 => ?_⟩
    simp only [DRW] at hm6
    simp
    refine ⟨by decide, ?_⟩
    refine h s b m4 ⟨by rw [hs.len]; exact hs, (a, b, c), by rw [eL]; exact hq, hs.len.symm, rfl, hi2⟩ (by omega) (by omega)
  · simp [hr]
    refine ⟨by decide, ?_⟩
    have e : cutL [97, 98, 99, 100, 101, 102, 103, 104] none (some (a : Int)) = ([97, 98, 99, 100, 101, 102, 103, 104] : List Nat).take a := by
      unfold cutL
      have : HT.sIx ([97, 98, 99, 100, 101, 102, 103, 104] : List Nat).length ([97, 98, 99, 100, 101, 102, 103, 104] : List Nat).length (some (a : Int)) = min a 8 := HT.sIx_nat _ _ _
      rw [this]
      show (([97, 98, 99, 100, 101, 102, 103, 104] : List Nat).drop 0).take (min a 8 - 0) = _
      rw [List.drop_zero, Nat.sub_zero, Nat.min_eq_left (by omega)]
    rw [e]
    have hs := letters_abc a (by omega)
    refine h _ b m3 ⟨by rw [hs.len]; exact hs, (a, b, c), by rw [eL]; exact hq, hs.len.symm, rfl, hi2⟩ (by omega) (by omega)
end DL

/-! ## Lem2 -/
/-! Lem2: slices, rows of numbers, more rules for loops -/
namespace DL
open PySem L2
theorem cutL_nat {α : Type} (s : List α) (a b : Nat) : cutL s (some (a : Int)) (some (b : Int)) = (s.drop (min a s.length)).take (min b s.length - min a s.length) := by
  unfold cutL
  rw [HT.sIx_nat, HT.sIx_nat]
theorem cutL_in {α : Type} (s : List α) {a b : Nat} (h1 : a ≤ s.length) (h2 : b ≤ s.length) : cutL s (some (a : Int)) (some (b : Int)) = (s.drop a).take (b - a) := by
  rw [cutL_nat, Nat.min_eq_left h1, Nat.min_eq_left h2]
theorem cutL_tail {α : Type} (s : List α) : cutL s (some 1) none = s.drop 1 := by
  unfold cutL
  have e : HT.sIx s.length 0 (some 1) = min 1 s.length := HT.sIx_nat s.length 0 1
  rw [e]
  show (s.drop (min 1 s.length)).take (s.length - min 1 s.length) = s.drop 1
  cases s with
  | nil => rfl
  | cons x s => simp
theorem cutL_front {α : Type} (s : List α) : cutL s none (some (-1)) = s.dropLast := by
  unfold cutL
  have : HT.sIx s.length s.length (some (-1)) = s.length - 1 := by
    show (if (-1 : Int) < 0 then ((-1 : Int) + (s.length : Int)).toNat else min (-1 : Int).toNat s.length) = _
    rw [if_pos (by decide)]
    omega
  rw [this, List.dropLast_eq_take]
  show (s.drop 0).take (s.length - 1 - 0) = _
  simp
abbrev I (ps : List Nat) : List D := ps.map fun p : Nat => D.int p
theorem int_any (ps : List Nat) : I ps = (ps.map fun p : Nat => (p : Int)).map D.int := by rw [List.map_map]; rfl
theorem all_bl {α : Type} (f : α → Bool) (xs : List α) : xs.map (fun x => D.bl (f x)) = (xs.map f).map D.bl := by rw [List.map_map]; rfl
theorem zip_I : ∀ xs ys : List Nat, zipD (I xs) (I ys) = (xs.zip ys).map fun p => D.tup [.int p.1, .int p.2]
  | [], _ => by simp [zipD]
  | _ :: _, [] => by simp [zipD]
  | x :: xs, y :: ys => by simp [zipD, zip_I xs ys]
theorem plains_I {k : Nat} : ∀ ps : List Nat, plains k (I ps) = true
  | [] => by simp
  | p :: ps => by simp [plains_I ps]
theorem plains_S {k : Nat} : ∀ ws : List (List Nat), plains k (ws.map D.str) = true
  | [] => by simp
  | p :: ps => by simp [plains_S ps]
theorem exact_same {k n : Nat} {x : D} {Q : Sl → Nat → Prop} (hp : plain k x = true) (h : Q (.val (.bl true)) n) : F_exact k [x, x] n Q := ⟨x, x, rfl, hp, hp, by simpa using h⟩
theorem strs_of {P : List Nat → Prop} : ∀ {ys : List D}, (∀ y ∈ ys, ∃ c, y = .str c ∧ P c) → ∃ cs : List (List Nat), ys = cs.map D.str ∧ ∀ c ∈ cs, P c
  | [], _ => ⟨[], rfl, fun _ h => nomatch h⟩
  | y :: ys, h => by
    obtain ⟨r, rfl, hr⟩ := h y (List.mem_cons_self ..)
    obtain ⟨rs, rfl, hrs⟩ := strs_of (fun y hy => h y (List.mem_cons_of_mem _ hy))
    refine ⟨r :: rs, rfl, fun x hx => ?_⟩
    rcases List.mem_cons.mp hx with rfl | hx
    · exact hr
    · exact hrs x hx
theorem cutL_last {α : Type} (s : List α) : cutL s (some (-1)) none = s.drop (s.length - 1) := by
  unfold cutL
  have : HT.sIx s.length 0 (some (-1)) = s.length - 1 := by
    show (if (-1 : Int) < 0 then ((-1 : Int) + (s.length : Int)).toNat else min (-1 : Int).toNat s.length) = _
    rw [if_pos (by decide)]
    omega
  rw [this]
  show (s.drop (s.length - 1)).take (s.length - (s.length - 1)) = _
  rw [List.take_of_length_le (by simp)]
theorem sum_cast : ∀ xs : List Nat, (xs.map fun p : Nat => (p : Int)).sum = ((xs.sum : Nat) : Int)
  | [] => rfl
  | x :: xs => by rw [List.map_cons, List.sum_cons, sum_cast xs, List.sum_cons]; omega
/-- a comprehension that draws which items it takes -/
theorem goD_pick {α : Type} {f r : α → D} {tg : FG} {tt : FT} {te : FE} {env : DEnv} (c B : Nat) : ∀ {xs : List α} {n : Nat} {Q : List D → Nat → Prop}, n + c * xs.length ≤ B → (∀ a ∈ xs, ∀ m K, m + c ≤ B → (∀ k, m ≤ k → k ≤ m + c → K none k ∧ K (some (r a)) k) → stepD tg tt te env (f a) m K) →
    (∀ (zs : List α) m, zs.Sublist xs → n ≤ m → m ≤ n + c * xs.length → Q (zs.map r) m) → goD tg tt te env (xs.map f) n Q
  | [], n, Q, hB, _, h => h [] n .slnil (Nat.le_refl _) (by simp)
  | a :: xs, n, Q, hB, H, h => by
    rw [List.length_cons, Nat.mul_succ] at hB
    refine goD_step (H a (List.mem_cons_self ..) n _ (by omega) fun k h1 h2 => ⟨?_, ?_⟩)
    · exact goD_pick c B (by omega) (fun b hb => H b (List.mem_cons_of_mem _ hb)) fun zs m w1 w2 w3 => h zs m (w1.cons _) (by omega) (by rw [List.length_cons, Nat.mul_succ]; omega)
    · exact goD_pick c B (by omega) (fun b hb => H b (List.mem_cons_of_mem _ hb)) fun zs m w1 w2 w3 => h (a :: zs) m (w1.cons₂ _) (by omega) (by rw [List.length_cons, Nat.mul_succ]; omega)
theorem forD_inv0 {tg : SG} {body : FS} {E : DEnds} (I : List D → SEnv → Nat → Prop) {xs : List D}
    (H : ∀ (pre : List D) (a : D) (post : List D) (env : SEnv) (n : Nat) (next : SEnv → Nat → Prop), xs = pre ++ a :: post → I pre env n → (∀ e m, I (pre ++ [a]) e m → next e m) → tg a env fun env' => body { nx := next, ct := next, bk := E.nx, rt := E.rt } env' n)
    (hE : ∀ env n, I xs env n → E.nx env n) {env : SEnv} {n : Nat} (h0 : I [] env n) : forD tg body E xs env n := by
  have := forD_inv (c := id) I H hE h0
  rwa [List.map_id] at this
theorem up_I (zs : List Nat) : zs.map (fun i : Nat => D.int (1 + (i : Int))) = I (zs.map fun i => 1 + i) := by
  show _ = (zs.map fun i => 1 + i).map (fun p : Nat => D.int (p : Int))
  rw [List.map_map]
  refine List.map_congr_left fun i _ => ?_
  show D.int (1 + (i : Int)) = D.int ((1 + i : Nat) : Int)
  congr 1
theorem cutL_take {α : Type} (s : List α) (k : Nat) : cutL s none (some (k : Int)) = s.take k := by
  unfold cutL
  have : HT.sIx s.length s.length (some (k : Int)) = min k s.length := HT.sIx_nat _ _ _
  rw [this]
  show (s.drop 0).take (min k s.length - 0) = _
  rw [List.drop_zero, Nat.sub_zero]
  by_cases h : k ≤ s.length
  · rw [Nat.min_eq_left h]
  · rw [Nat.min_eq_right (by omega), List.take_of_length_le (Nat.le_refl _), List.take_of_length_le (by omega)]
theorem cutL_drop {α : Type} (s : List α) (k : Nat) : cutL s (some (k : Int)) none = s.drop k := by
  unfold cutL
  have : HT.sIx s.length 0 (some (k : Int)) = min k s.length := HT.sIx_nat _ _ _
  rw [this]
  show (s.drop (min k s.length)).take (s.length - min k s.length) = _
  by_cases h : k ≤ s.length
  · rw [Nat.min_eq_left h, List.take_of_length_le (by simp)]
  · rw [Nat.min_eq_right (by omega), List.drop_of_length_le (Nat.le_refl _), List.drop_of_length_le (by omega)]; simp
end DL

/-! ## Use -/
/-! Use: the shared contracts, ready to be used -/
namespace DL
open PySem L2
theorem log_small {many : Int} (h1 : 1 ≤ many) (h2 : many < 1073741824) : many.natAbs.log2 < 9000 := by
  have h3 : many.natAbs < 2 ^ 30 := by omega
  have := (Nat.log2_lt (by omega)).mpr h3
  omega
theorem draw_of {many : Int} {n : Nat} {K : Sl → Nat → Prop} (h1 : 1 ≤ many) (h2 : many < 1073741824) (hn : n + 400 ≤ 1000000000000000000) (h : ∀ (r m : Nat), (r : Int) < many → n ≤ m → m ≤ n + 400 → K (.val (.int r)) m) : F_draw [dice, .int many] n K :=
  ⟨many, rfl, h1, log_small h1 h2, by simp only [DRW, LIM]; omega, fun r m hr1 hr2 hm1 hm2 => by
    obtain ⟨k, rfl⟩ := Int.eq_ofNat_of_zero_le hr1
    exact h k m hr2 hm1 (by simpa only [DRW] using hm2)⟩
theorem text_of {s : List Nat} {g most n : Nat} {K : Sl → Nat → Prop} (hs0 : s ≠ []) (hs : s.length ≤ 26) (hl : low s = true) (g1 : 1 ≤ g) (g2 : g ≤ 100) (hm : most ≤ 100000) (hn : n + 40000000000 ≤ 1000000000000000000)
    (h : ∀ t m, low t = true → (∀ c ∈ t, c ∈ s) → t.length ≤ most → n ≤ m → m ≤ n + 40000000000 → K (.val (.str t)) m) : F__law_text [dice, .tup [.str s, .int (g : Nat)], .int (most : Nat)] n K :=
  ⟨s, g, most, rfl, hs0, hs, g1, g2, hm, by simp only [DRW, LIM]; omega, fun t m ht hl' h3 h4 => h t m (low_iff.mpr fun c hc => low_iff.mp hl c (ht c hc)) ht hl' h3 (by simpa only [DRW] using h4)⟩
/-- the loop over the dice of a law -/
theorem dices_inv {tg : SG} {body : FS} {E : DEnds} {k c : Nat} {env : SEnv} (sh : SEnv → Prop) (hk : k ≤ 60) (hc : c * 60 ≤ 1000000000000000000)
    (H : ∀ (env : SEnv) (n : Nat) (next : SEnv → Nat → Prop), sh env → n + c ≤ 1000000000000000000 → (∀ e m, sh e → m ≤ n + c → next e m) → tg dice env fun env' => body { nx := next, ct := next, bk := E.nx, rt := E.rt } env' n)
    (hE : ∀ env n, sh env → n ≤ c * k → E.nx env n) (h0 : sh env) : forD tg body E (List.replicate k dice) env 0 := by
  refine forD_inv0 (fun pre env m => sh env ∧ m ≤ pre.length * c) ?_ (fun env n h => hE env n h.1 (by have := h.2; simp at this; rw [Nat.mul_comm]; exact this)) ⟨h0, by simp⟩
  rintro pre a post env m next hx ⟨hs, hm⟩ hn
  have ha : a = dice := by
    have : a ∈ List.replicate k dice := by rw [hx]; simp
    exact (List.mem_replicate.mp this).2
  subst ha
  have hlen := congrArg List.length hx
  simp at hlen
  have h1 : (pre.length + 1) * c ≤ 60 * c := Nat.mul_le_mul_right c (by omega)
  rw [Nat.succ_mul] at h1
  refine H env m next hs (by rw [Nat.mul_comm 60 c] at h1; omega) fun e m' hs' hm' => hn e m' ⟨hs', ?_⟩
  rw [List.length_append, Nat.add_mul]
  simp
  omega
@[simp] theorem atI_0 {α : Type} (x : α) (xs : List α) : atI (x :: xs) 0 = some x := by
  rw [show (0 : Int) = ((0 : Nat) : Int) from rfl]; exact atI_nat' rfl
@[simp] theorem atI_1 {α : Type} (x y : α) (xs : List α) : atI (x :: y :: xs) 1 = some y := by
  rw [show (1 : Int) = ((1 : Nat) : Int) from rfl]; exact atI_nat' rfl
@[simp] theorem atI_2 {α : Type} (x y z : α) (xs : List α) : atI (x :: y :: z :: xs) 2 = some z := by
  rw [show (2 : Int) = ((2 : Nat) : Int) from rfl]; exact atI_nat' rfl
@[simp] theorem atI_3 {α : Type} (x y z w : α) (xs : List α) : atI (x :: y :: z :: w :: xs) 3 = some w := by
  rw [show (3 : Int) = ((3 : Nat) : Int) from rfl]; exact atI_nat' rfl
theorem cutL_take1 {α : Type} (s : List α) : cutL s none (some 1) = s.take 1 := cutL_take s 1
theorem cutL_mid {α : Type} (s : List α) (a o : Nat) (h : a + o ≤ s.length) : cutL s (some (a : Int)) (some ((a : Int) + (o : Int))) = (s.drop a).take o := by
  rw [show (a : Int) + (o : Int) = ((a + o : Nat) : Int) from by omega, cutL_in s (by omega) h]
  congr 1
  omega
theorem atI_D {s : List Nat} {i : Nat} (h : i < s.length) : atI s (i : Int) = some (s.getD i 0) := by
  refine atI_nat' ?_
  rw [List.getElem?_eq_getElem h, List.getD_eq_getElem?_getD, List.getElem?_eq_getElem h]
  rfl
end DL

/-! ## ComE -/
/-! ComE: periods -/
namespace DL
open PySem L2
def isPer (s : List Nat) (p : Nat) : Bool := decide (p < s.length) && (s.drop p == s.take (s.length - p))
def upto (n : Nat) : List Nat := (List.range (n - 1)).map fun i => 1 + i
theorem mem_upto {n p : Nat} : p ∈ upto n ↔ 1 ≤ p ∧ p < n := by
  unfold upto
  rw [List.mem_map]
  refine ⟨fun ⟨i, hi, e⟩ => ?_, fun h => ⟨p - 1, List.mem_range.mpr (by omega), by omega⟩⟩
  have := List.mem_range.mp hi
  omega
theorem ups_upto (n : Nat) : ups 1 ((n : Int) - 1).toNat = I (upto n) := by
  rw [ups_eq]
  have : ((n : Int) - 1).toNat = n - 1 := by omega
  rw [this]
  exact up_I _
theorem ups_upto' (n : Nat) : ups 1 (n - 1) = I (upto n) := by
  rw [ups_eq]
  exact up_I _
theorem upto_len (n : Nat) : (upto n).length = n - 1 := by simp [upto]
def persOf (s : List Nat) : List Nat := (upto s.length).filter (isPer s)
def leastP (s : List Nat) : Nat := (persOf s ++ [s.length]).headD 0
def F_has : FC := fun ds n Q => ∃ (s : List Nat) (p : Nat), ds = [.str s, .int p] ∧ s.length ≤ 1000000 ∧ Q (.val (.bl (isPer s p))) n
def F_periods_in : FC := fun ds n Q => ∃ s : List Nat, ds = [.str s] ∧ s.length ≤ 1000000 ∧ Q (.own (I (persOf s))) n
def F_least_in : FC := fun ds n Q => ∃ s : List Nat, ds = [.str s] ∧ s.length ≤ 1000000 ∧ Q (.val (.int (leastP s : Nat))) n
theorem law_has : ∀ ds n Q, F_has ds n Q → ds.length = 2 → cm_has { nx := fun _ m => Q (.val .non) m, rt := Q } (startE 0 ds) n := by
  rintro ds n Q ⟨s, p, rfl, hz, h⟩ _
  unfold isPer at h
  simp [cm_has]
  by_cases hp : p < s.length
  · simp [hp] at h ⊢
    have e : (s.length : Int) - (p : Int) = ((s.length - p : Nat) : Int) := by omega
    rw [e, cutL_take, cutL_drop]
    exact h
  · simp [hp] at h ⊢
    exact h
theorem law_periods_in : ∀ ds n Q, F_periods_in ds n Q → ds.length = 1 → cm_periods_in F_has { nx := fun _ m => Q (.val .non) m, rt := Q } (startE 1 ds) n := by
  rintro ds n Q ⟨s, rfl, hz, h⟩ _
  simp [cm_periods_in]
  refine ⟨by omega, ?_⟩
  rw [ups_upto']
  refine goD_filter (isPer s) (fun p : Nat => D.int p) (fun p hp m K hT hF => ?_) h
  simp [stepD]
  refine ⟨s, p, rfl, hz, ?_⟩
  cases e : isPer s p with
  | true => simpa using hT e
  | false => simpa using hF e
theorem law_least_in : ∀ ds n Q, F_least_in ds n Q → ds.length = 1 → cm_least_in F_periods_in { nx := fun _ m => Q (.val .non) m, rt := Q } (startE 0 ds) n := by
  rintro ds n Q ⟨s, rfl, hz, h⟩ _
  have hl : (persOf s).length ≤ s.length := by
    have := List.length_filter_le (isPer s) (upto s.length)
    rw [upto_len] at this
    exact Nat.le_trans this (by omega)
  simp [cm_least_in]
  have hs : sizeLine = 16777216 := PySem.sizeLine_eq
  refine ⟨s, rfl, hz, _, .inl rfl, by rw [List.length_map]; omega, ?_⟩
  have e : I (persOf s) ++ [D.int (s.length : Int)] = I (persOf s ++ [s.length]) := by simp
  rw [e]
  unfold leastP at h
  cases hx : persOf s ++ [s.length] with
  | nil => simp at hx
  | cons a r =>
    rw [hx] at h
    exact ⟨_, by rw [show (0 : Int) = ((0 : Nat) : Int) from rfl]; exact atI_nat' rfl, h⟩
/-- the least period: 1 to the length, a period or the length, and no smaller one is a period -/
theorem leastP_spec {s : List Nat} (h : s ≠ []) : 1 ≤ leastP s ∧ leastP s ≤ s.length ∧ (leastP s = s.length ∨ isPer s (leastP s) = true) := by
  have hl : 0 < s.length := List.length_pos_iff.mpr h
  unfold leastP
  cases hx : persOf s with
  | nil => simp; omega
  | cons a r =>
    have ha : a ∈ persOf s := by rw [hx]; simp
    have := List.mem_filter.mp ha
    have h2 := mem_upto.mp this.1
    simp
    exact ⟨h2.1, by omega, .inr this.2⟩
end DL

/-! ## Per -/
/-! Per: periods, borders, roots: plain laws -/
namespace DL
open PySem L2
def isBor (s : List Nat) (b : Nat) : Bool := s.take b == s.drop (s.length - b)
def borsOf (s : List Nat) : List Nat := (upto s.length).filter (isBor s)
def rootOf (s : List Nat) : List Nat × Nat := if s.length % leastP s = 0 then (s.take (leastP s), s.length / leastP s) else (s, 1)
theorem per_all {s : List Nat} {p : Nat} (hp : p < s.length) : isPer s p = true ↔ ∀ i < s.length - p, s.getD i 0 = s.getD (i + p) 0 := by
  unfold isPer
  simp only [hp, decide_true, Bool.true_and, beq_iff_eq]
  refine ⟨fun e i hi => ?_, fun h => ?_⟩
  · have := congrArg (fun l : List Nat => l.getD i 0) e
    simp only [List.getD_eq_getElem?_getD, List.getElem?_drop, List.getElem?_take] at this
    rw [if_pos hi] at this
    rw [List.getD_eq_getElem?_getD, List.getD_eq_getElem?_getD, Nat.add_comm i p]
    exact this.symm
  · refine List.ext_getElem (by simp) fun i h1 h2 => ?_
    have hi : i < s.length - p := by simpa using h1
    have := h i hi
    rw [List.getD_eq_getElem?_getD, List.getD_eq_getElem?_getD, List.getElem?_eq_getElem (by omega), List.getElem?_eq_getElem (by omega)] at this
    simp only [Option.getD_some] at this
    rw [List.getElem_drop, List.getElem_take, this]
    congr 1
    omega
theorem bor_per {s : List Nat} {b : Nat} (h1 : 1 ≤ b) (h2 : b < s.length) : isBor s b = isPer s (s.length - b) := by
  unfold isBor isPer
  have e : s.length - (s.length - b) = b := by omega
  rw [e, decide_eq_true (by omega : s.length - b < s.length), Bool.true_and]
  rw [Bool.eq_iff_iff, beq_iff_eq, beq_iff_eq]
  exact eq_comm
theorem upto_rev (n : Nat) : ((upto n).map fun b => n - b).reverse = upto n := by
  refine List.ext_getElem (by simp) fun i h1 h2 => ?_
  have hi : i < n - 1 := by simpa [upto] using h2
  rw [List.getElem_reverse]
  simp [upto]
  omega
theorem bors_rev (s : List Nat) : ((borsOf s).map fun b => s.length - b).reverse = persOf s := by
  unfold borsOf persOf
  have e : (upto s.length).filter (isBor s) = (upto s.length).filter (fun b => isPer s (s.length - b)) := List.filter_congr fun b hb => bor_per (mem_upto.mp hb).1 (mem_upto.mp hb).2
  rw [e]
  conv => rhs; rw [← upto_rev]
  rw [List.filter_reverse, List.filter_map]
  rfl
/-! ### two periods -/
theorem per_iff {s : List Nat} {p : Nat} : isPer s p = true ↔ p < s.length ∧ ∀ i, i + p < s.length → s.getD i 0 = s.getD (i + p) 0 := by
  constructor
  · intro h
    have hp : p < s.length := by
      unfold isPer at h
      simp only [Bool.and_eq_true, decide_eq_true_eq] at h
      exact h.1
    exact ⟨hp, fun i hi => (per_all hp).mp h i (by omega)⟩
  · intro ⟨hp, h⟩
    exact (per_all hp).mpr fun i hi => h i (by omega)
theorem per_sub {s : List Nat} {p q : Nat} (hp : isPer s p = true) (hq : isPer s q = true) (h : p < q) (hl : p + q ≤ s.length) : isPer s (q - p) = true := by
  obtain ⟨h1, h2⟩ := per_iff.mp hp
  obtain ⟨h3, h4⟩ := per_iff.mp hq
  refine per_iff.mpr ⟨by omega, fun i hi => ?_⟩
  by_cases hc : i + q < s.length
  · have a := h4 i hc
    have b := h2 (i + (q - p)) (by omega)
    rw [show i + (q - p) + p = i + q by omega] at b
    rw [a, b]
  · have hip : p ≤ i := by omega
    have a := h2 (i - p) (by omega)
    have b := h4 (i - p) (by omega)
    rw [show i - p + p = i by omega] at a
    rw [show i - p + q = i + (q - p) by omega] at b
    rw [← a, b]
theorem per_gcd {s : List Nat} : ∀ (k p q : Nat), p + q ≤ k → 1 ≤ p → 1 ≤ q → isPer s p = true → isPer s q = true → p + q ≤ s.length → isPer s (Nat.gcd p q) = true
  | 0, p, q, hk, h1, _, _, _, _ => by omega
  | k + 1, p, q, hk, h1, h2, hp, hq, hl => by
    rcases Nat.lt_trichotomy p q with h | h | h
    · have := per_gcd k p (q - p) (by omega) h1 (by omega) hp (per_sub hp hq h hl) (by omega)
      rwa [Nat.gcd_sub_self_right (by omega)] at this
    · subst h; rwa [Nat.gcd_self]
    · have := per_gcd k (p - q) q (by omega) (by omega) h2 (per_sub hq hp h (by omega)) hq (by omega)
      rwa [Nat.gcd_sub_self_left (by omega)] at this
theorem upto_inc (n : Nat) : (upto n).Pairwise (· < ·) := by
  unfold upto
  rw [List.pairwise_map]
  exact List.pairwise_lt_range.imp fun h => by omega
theorem leastP_le {s : List Nat} {p : Nat} (h1 : 1 ≤ p) (hp : isPer s p = true) : leastP s ≤ p := by
  have hlt := (per_iff.mp hp).1
  have hm : p ∈ persOf s := List.mem_filter.mpr ⟨mem_upto.mpr ⟨h1, hlt⟩, hp⟩
  have hs : (persOf s).Pairwise (· < ·) := (upto_inc s.length).sublist List.filter_sublist
  unfold leastP
  cases hx : persOf s with
  | nil => rw [hx] at hm; cases hm
  | cons a r =>
    rw [hx] at hm hs
    simp
    rcases List.mem_cons.mp hm with rfl | hm
    · exact Nat.le_refl _
    · exact Nat.le_of_lt ((List.pairwise_cons.mp hs).1 p hm)
/-- the least period divides every period that divides the length -/
theorem leastP_dvd {s : List Nat} {d : Nat} (h1 : 1 ≤ d) (hd : d ∣ s.length) (hp : isPer s d = true) : leastP s ∣ d := by
  have hlt := (per_iff.mp hp).1
  have hle := leastP_le h1 hp
  have hne : s ≠ [] := fun e => by subst e; simp at hlt
  have hsp := leastP_spec hne
  have hpp : isPer s (leastP s) = true := by
    rcases hsp.2.2 with e | e
    · omega
    · exact e
  obtain ⟨k, hk⟩ := hd
  have hk2 : 2 ≤ k := by
    rcases Nat.lt_or_ge k 2 with h | h
    · have : k = 0 ∨ k = 1 := by omega
      rcases this with rfl | rfl
      · rw [Nat.mul_zero] at hk; omega
      · rw [Nat.mul_one] at hk; omega
    · exact h
  have h2d : d * 2 ≤ s.length := by rw [hk]; exact Nat.mul_le_mul_left d hk2
  have hg := per_gcd _ (leastP s) d (Nat.le_refl _) hsp.1 h1 hpp hp (by omega)
  have hgp : 1 ≤ Nat.gcd (leastP s) d := Nat.gcd_pos_of_pos_right _ h1
  have h3 := leastP_le hgp hg
  have h4 := Nat.gcd_le_left d (show 0 < leastP s from hsp.1)
  have h5 : Nat.gcd (leastP s) d = leastP s := by omega
  rw [← h5]
  exact Nat.gcd_dvd_right _ _
/-! ### powers -/
theorem getD_rep (w : List Nat) : ∀ (k i : Nat), i < k * w.length → (List.replicate k w).flatten.getD i 0 = w.getD (i % w.length) 0
  | 0, i, h => by simp at h
  | k + 1, i, h => by
    rw [Nat.succ_mul] at h
    rw [List.replicate_succ, List.flatten_cons]
    by_cases hi : i < w.length
    · rw [Nat.mod_eq_of_lt hi, List.getD_eq_getElem?_getD, List.getElem?_append_left hi, List.getD_eq_getElem?_getD]
    · have ih := getD_rep w k (i - w.length) (by omega)
      rw [List.getD_eq_getElem?_getD, List.getElem?_append_right (by omega), ← List.getD_eq_getElem?_getD, ih]
      congr 1
      exact (Nat.mod_eq_sub_mod (by omega)).symm
theorem per_mod {s : List Nat} {d : Nat} (hp : isPer s d = true) (h1 : 1 ≤ d) : ∀ i, i < s.length → s.getD i 0 = s.getD (i % d) 0 := by
  intro i
  induction i using Nat.strongRecOn with
  | _ i ih =>
    intro hi
    by_cases hd : i < d
    · rw [Nat.mod_eq_of_lt hd]
    · have h2 := (per_iff.mp hp).2 (i - d) (by omega)
      rw [show i - d + d = i by omega] at h2
      rw [← h2, ih (i - d) (by omega) (by omega), ← Nat.mod_eq_sub_mod (by omega)]
theorem ext_getD {xs ys : List Nat} (hl : xs.length = ys.length) (h : ∀ i, i < xs.length → xs.getD i 0 = ys.getD i 0) : xs = ys := by
  refine List.ext_getElem hl fun i h1 h2 => ?_
  have := h i h1
  rw [List.getD_eq_getElem?_getD, List.getD_eq_getElem?_getD, List.getElem?_eq_getElem h1, List.getElem?_eq_getElem h2] at this
  simpa using this
theorem pow_iff {s : List Nat} {d : Nat} (h1 : 1 ≤ d) (hs : 0 < s.length) (hd : d ∣ s.length) : (List.replicate (s.length / d) (s.take d)).flatten = s ↔ (d = s.length ∨ isPer s d = true) := by
  have hle : d ≤ s.length := Nat.le_of_dvd hs hd
  have hm : s.length / d * d = s.length := Nat.div_mul_cancel hd
  have htl : (s.take d).length = d := by rw [List.length_take]; omega
  constructor
  · intro e
    by_cases hn : d = s.length
    · exact .inl hn
    · refine .inr (per_iff.mpr ⟨by omega, fun i hi => ?_⟩)
      have g : ∀ j, j < s.length → s.getD j 0 = (s.take d).getD (j % d) 0 := fun j hj => by
        have := getD_rep (s.take d) (s.length / d) j (by rw [htl, hm]; exact hj)
        rw [e, htl] at this
        exact this
      rw [g i (by omega), g (i + d) hi, Nat.add_mod_right]
  · intro hc
    refine ext_getD (by rw [rep_len, htl, hm]) fun i hi => ?_
    rw [rep_len, htl, hm] at hi
    rw [getD_rep _ _ _ (by rw [htl, hm]; exact hi), htl]
    have hmod : i % d < d := Nat.mod_lt _ h1
    have e1 : (s.take d).getD (i % d) 0 = s.getD (i % d) 0 := by
      rw [List.getD_eq_getElem?_getD, List.getElem?_take, if_pos hmod, ← List.getD_eq_getElem?_getD]
    rw [e1]
    rcases hc with rfl | hc
    · rw [Nat.mod_eq_of_lt hi]
    · exact (per_mod hc h1 i hi).symm
theorem head_least {xs : List Nat} {r : Nat} (hs : xs.Pairwise (· < ·)) (hr : r ∈ xs) (h : ∀ d ∈ xs, r ≤ d) : ∃ rest, xs = r :: rest := by
  cases xs with
  | nil => cases hr
  | cons a as =>
    have h1 := h a (List.mem_cons_self ..)
    rcases List.mem_cons.mp hr with rfl | hm
    · exact ⟨as, rfl⟩
    · have := (List.pairwise_cons.mp hs).1 r hm
      omega
def rootN (s : List Nat) : Nat := if s.length % leastP s = 0 then leastP s else s.length
theorem rootOf_eq {s : List Nat} (h : s ≠ []) : rootOf s = (s.take (rootN s), s.length / rootN s) := by
  have hl : 0 < s.length := List.length_pos_iff.mpr h
  unfold rootOf rootN
  split
  · rfl
  · rw [List.take_length, Nat.div_self hl]
def isPart (s : List Nat) (d : Nat) : Bool := decide (s.length % d = 0) && ((List.replicate (s.length / d) (s.take d)).flatten == s)
theorem rootN_spec {s : List Nat} (h : s ≠ []) : 1 ≤ rootN s ∧ rootN s ≤ s.length ∧ rootN s ∣ s.length ∧ (rootN s = s.length ∨ isPer s (rootN s) = true) := by
  have hl : 0 < s.length := List.length_pos_iff.mpr h
  have hsp := leastP_spec h
  unfold rootN
  split
  · rename_i e
    exact ⟨hsp.1, hsp.2.1, Nat.dvd_of_mod_eq_zero e, hsp.2.2⟩
  · exact ⟨hl, Nat.le_refl _, Nat.dvd_refl _, .inl rfl⟩
theorem rootN_le {s : List Nat} (h : s ≠ []) {d : Nat} (h1 : 1 ≤ d) (hd : d ∣ s.length) (hc : d = s.length ∨ isPer s d = true) : rootN s ≤ d := by
  rcases hc with rfl | hc
  · exact (rootN_spec h).2.1
  · have h2 := leastP_dvd h1 hd hc
    have h3 : s.length % leastP s = 0 := Nat.mod_eq_zero_of_dvd (Nat.dvd_trans h2 hd)
    unfold rootN
    rw [if_pos h3]
    exact leastP_le h1 hc
theorem parts_first {s : List Nat} (h : s ≠ []) : ∃ rest, (upto (s.length + 1)).filter (isPart s) = rootN s :: rest := by
  have hl : 0 < s.length := List.length_pos_iff.mpr h
  have hsp := rootN_spec h
  refine head_least ((upto_inc _).sublist List.filter_sublist) (List.mem_filter.mpr ⟨mem_upto.mpr ⟨hsp.1, by omega⟩, ?_⟩) fun d hd => ?_
  · unfold isPart
    rw [decide_eq_true (Nat.mod_eq_zero_of_dvd hsp.2.2.1), Bool.true_and, beq_iff_eq]
    exact (pow_iff hsp.1 hl hsp.2.2.1).mpr hsp.2.2.2
  · obtain ⟨h1, h2⟩ := List.mem_filter.mp hd
    have h1 := mem_upto.mp h1
    unfold isPart at h2
    simp only [Bool.and_eq_true, decide_eq_true_eq, beq_iff_eq] at h2
    have hdv := Nat.dvd_of_mod_eq_zero h2.1
    exact rootN_le h h1.1 hdv ((pow_iff h1.1 hl hdv).mp h2.2)
theorem root_root {s : List Nat} (h : s ≠ []) : s.take (rootN s) ≠ [] ∧ rootOf (s.take (rootN s)) = (s.take (rootN s), 1) := by
  have hl : 0 < s.length := List.length_pos_iff.mpr h
  have hsp := rootN_spec h
  have hwl : (s.take (rootN s)).length = rootN s := by rw [List.length_take]; omega
  have hw : s.take (rootN s) ≠ [] := fun e => by rw [e] at hwl; simp at hwl; omega
  refine ⟨hw, ?_⟩
  have hws := rootN_spec hw
  rw [hwl] at hws
  have key : rootN (s.take (rootN s)) = rootN s := by
    rcases hws.2.2.2 with e | e
    · exact e
    · refine Nat.le_antisymm hws.2.1 (rootN_le h hws.1 (Nat.dvd_trans hws.2.2.1 hsp.2.2.1) (.inr ?_))
      have hlt : rootN (s.take (rootN s)) < rootN s := by have := (per_iff.mp e).1; omega
      have g : ∀ i, i < s.length → s.getD i 0 = s.getD (i % rootN (s.take (rootN s))) 0 := fun i hi => by
        have hm : i % rootN s < rootN s := Nat.mod_lt _ hsp.1
        have a : s.getD i 0 = s.getD (i % rootN s) 0 := by
          rcases hsp.2.2.2 with e2 | e2
          · rw [Nat.mod_eq_of_lt (by omega)]
          · exact per_mod e2 hsp.1 i hi
        have tk : ∀ j, j < rootN s → (s.take (rootN s)).getD j 0 = s.getD j 0 := fun j hj => by
          rw [List.getD_eq_getElem?_getD, List.getElem?_take, if_pos hj, ← List.getD_eq_getElem?_getD]
        have b := per_mod e hws.1 (i % rootN s) (by omega)
        rw [tk _ hm, tk _ (Nat.lt_trans (Nat.mod_lt _ hws.1) hlt), Nat.mod_mod_of_dvd _ hws.2.2.1] at b
        rw [a, b]
      refine per_iff.mpr ⟨by omega, fun i hi => ?_⟩
      rw [g i (by omega), g _ hi, Nat.add_mod_right]
  rw [rootOf_eq hw, key, hwl, Nat.div_self hsp.1, List.take_of_length_le (by omega)]
end DL

/-! ## Rd_K04 -/
namespace K04
open PySem L2 DL

/-- is_whole(value), slots 0 value -/
def rd_is_whole : FS := (sRet (fAnd (fIsi .int (fVar 0)) (fNot (fIsi .bool (fVar 0)))))
/-- is_count(value, most), slots 0 value 1 most -/
def rd_is_count (F_is_whole : FC) : FS := (sRet (fAnd (fCall 1 F_is_whole [] (aCons (fVar 0) aNil)) (fAnd (f2 gGe (fVar 0) (fC (.int 0))) (fOr (f2 gIsN (fVar 1) (fC .non)) (f2 gLe (fVar 0) (fVar 1))))))
/-- is_text(value), slots 0 value 1 sign -/
def rd_is_text : FS := (sRet (fAnd (fIsi .str (fVar 0)) (fCl gAll (aCons (fFrz (oComp (iSeqN 0) (gN 1) tYesD (fChain gLe gLe (fC (.str [97])) (fVar 1) (fC (.str [122]))) [1])) aNil))))
/-- is_word(value), slots 0 value -/
def rd_is_word (F_is_text : FC) : FS := (sRet (fAnd (fCall 1 F_is_text [] (aCons (fVar 0) aNil)) (f2 gNe (fVar 0) (fC (.str [])))))
/-- check_word(value), slots 0 value -/
def rd_check_word (F_is_word : FC) : FS := (sIf (tNotD (tTru (fCall 1 F_is_word [] (aCons (fVar 0) aNil)))) sNever sNext)
/-- check_from(value, least), slots 0 value 1 least -/
def rd_check_from (F_is_count : FC) : FS := (sIf (tOrD (tNotD (tTru (fCall 2 F_is_count [.non] (aCons (fVar 0) aNil)))) (tVal (f2 gLt (fVar 0) (fVar 1)))) sNever sNext)
/-- has(text, period), slots 0 text 1 period -/
def rd_has : FS := (sRet (fAnd (f2 gLt (fVar 1) (fCl gLen (aCons (fVar 0) aNil))) (f2 gEq (fSl (fVar 0) (oSo (fVar 1)) oNo) (fSl (fVar 0) oNo (oSo (f2 gSub (fCl gLen (aCons (fVar 0) aNil)) (fVar 1)))))))
/-- periods_in(text), slots 0 text 1 period -/
def rd_periods_in (F_has : FC) : FS := (sRetO (oComp (iRange2 (aCons (fC (.int 1)) (aCons (fCl gLen (aCons (fVar 0) aNil)) aNil))) (gN 1) (tTru (fCall 2 F_has [] (aCons (fVar 0) (aCons (fVar 1) aNil)))) (fVar 1) [1]))
/-- least_in(word), slots 0 word -/
def rd_least_in (F_periods_in : FC) : FS := (sRet (f2 gIx (fFrz (oLst (aStar (fCall 1 F_periods_in [] (aCons (fVar 0) aNil)) (aCons (fCl gLen (aCons (fVar 0) aNil)) aNil)))) (fC (.int 0))))
/-- root_in(word), slots 0 word 1 period -/
def rd_root_in (F_least_in : FC) : FS := (sSeq (sAsg 1 (fCall 1 F_least_in [] (aCons (fVar 0) aNil))) (sSeq (sIf (tVal (f2 gEq (f2 gMod (fCl gLen (aCons (fVar 0) aNil)) (fVar 1)) (fC (.int 0)))) (sRet (fTup (aCons (fSl (fVar 0) oNo (oSo (fVar 1))) (aCons (f2 gDiv (fCl gLen (aCons (fVar 0) aNil)) (fVar 1)) aNil)))) sNext) (sRet (fTup (aCons (fVar 0) (aCons (fC (.int 1)) aNil))))))
/-- root(word), slots 0 word -/
def rd_root (F_check_word : FC) (F_root_in : FC) : FS := (sSeq (sDrop (fCall 1 F_check_word [] (aCons (fVar 0) aNil))) (sRet (fCall 1 F_root_in [] (aCons (fVar 0) aNil))))
/-- many_words(signs, length), slots 0 signs 1 length 2 found 3 spin -/
def rd_many_words : FS := (sSeq (sAsg 2 (fC (.int 1))) (sSeq (sFor (iRange1 (aCons (fVar 1) aNil)) (nN 3) (sAug gMulI 2 (fVar 0))) (sRet (fVar 2))))
/-- primitives(signs, length), slots 0 signs 1 length 2 found 3 size 4 late -/
def rd_primitives (F_many_words : FC) : FS := (sSeq (sDct 2) (sSeq (sFor (iRange2 (aCons (fC (.int 1)) (aCons (f2 gAdd3 (fVar 1) (fC (.int 1))) aNil))) (nN 3) (sIf (tVal (f2 gEq (f2 gMod (fVar 1) (fVar 3)) (fC (.int 0)))) (sSetDV 2 (f2 gSub (fCall 2 F_many_words [] (aCons (fVar 0) (aCons (fVar 3) aNil))) (fCl gSum (aCons (fFrz (oComp (iSeqN 2) (gN 4) (tVal (f2 gEq (f2 gMod (fVar 3) (fVar 4)) (fC (.int 0)))) (f2 gIx (fVar 2) (fVar 4)) [4])) aNil))) (fVar 3)) sNext)) (sRetV (f2 gIx (fVar 2) (fVar 1)))))
/-- many_primitives(signs, length), slots 0 signs 1 length -/
def rd_many_primitives (F_check_from : FC) (F_primitives : FC) : FS := (sSeq (sDrop (fCall 2 F_check_from [] (aCons (fVar 0) (aCons (fC (.int 1)) aNil)))) (sSeq (sDrop (fCall 2 F_check_from [] (aCons (fVar 1) (aCons (fC (.int 1)) aNil)))) (sRet (fCall 2 F_primitives [] (aCons (fVar 0) (aCons (fVar 1) aNil))))))
/-- _law_dice(script, at), slots 0 script 1 at 2 seed -/
def rd__law_dice : FS := (sSeq (sAsg 2 (fCl gSum (aCons (fSl (fVar 0) (oSo (fVar 1)) (oSo (f2 gAdd3 (fVar 1) (fC (.int 1))))) aNil))) (sRetO (oLst (aCons (f2 gMod (fCl gInt (aCons (fCl gMax (aCons (f2 gSub (fVar 2) (f2 gPow (fC (.int 10)) (fC (.int 18)))) (aCons (fC (.int 0)) aNil))) aNil)) (f2 gPow (f2 gPow (fC (.int 10)) (fC (.int 60))) (fC (.int 8)))) (aCons (f2 gMod (fCl gInt (aCons (fVar 2) aNil)) (fC (.int 2147483629))) (aCons (fC (.int 0)) (aCons (fVar 1) aNil)))))))
/-- _law_mixed(seed, spin, at), slots 0 seed 1 spin 2 at 3 mixed -/
def rd__law_mixed : FS := (sSeq (sAsg 3 (f2 gAdd3 (f2 gMul (fVar 0) (fC (.int 69069))) (f2 gMul (f2 gMul (fC (.int 104729)) (fVar 1)) (fVar 1)))) (sSeq (sAsg 3 (f2 gMod (fCl gInt (aCons (f2 gAdd3 (f2 gAdd3 (fVar 3) (f2 gMul (fC (.int 7919)) (fVar 2))) (fVar 1)) aNil)) (fC (.int 2147483647)))) (sSeq (sAsg 3 (f2 gMod (fCl gInt (aCons (f2 gAdd3 (f2 gMul (fVar 3) (fVar 3)) (fC (.int 40503))) aNil)) (fC (.int 2147483629)))) (sRet (f2 gMod (fCl gInt (aCons (f2 gMul (fVar 3) (fC (.int 48271))) aNil)) (fC (.int 2147483587)))))))
/-- _law_draw(dice, many), slots 0 dice 1 many 2 found 3 piece 4 drawn -/
def rd__law_draw (F__law_mixed : FC) : FS := (sSeq (sIf (tVal (f2 gGt (fIxB 0 0) (fC (.int 0)))) (sSeq (sAsg 4 (f2 gMod (fCl gInt (aCons (fIxB 0 0) aNil)) (fVar 1))) (sSeq (sSetB 0 0 (f2 gDiv (fIxB 0 0) (fVar 1))) (sRet (fVar 4)))) sNext) (sSeq (sAsg 2 (fC (.int 0))) (sSeq (sFor (iRange1 (aCons (f2 gAdd3 (fC (.int 1)) (f2 gDiv (f1 gBits (fVar 1)) (fC (.int 28)))) aNil)) (nN 3) (sSeq (sSetB 0 2 (f2 gAdd3 (fIxB 0 2) (fC (.int 1)))) (sAsg 2 (f2 gAdd3 (f2 gMul (fVar 2) (fC (.int 2147483587))) (fCall 3 F__law_mixed [] (aCons (fIxB 0 1) (aCons (fIxB 0 2) (aCons (fIxB 0 3) aNil)))))))) (sRet (f2 gMod (fCl gInt (aCons (fVar 2) aNil)) (fVar 1))))))
/-- _law_one_of(dice, some), slots 0 dice 1 some -/
def rd__law_one_of (F__law_draw : FC) : FS := (sRet (f2 gIx (fVar 1) (fCall 2 F__law_draw [] (aCons (fVar 0) (aCons (fCl gLen (aCons (fVar 1) aNil)) aNil)))))
/-- _law_exact(mine, theirs), slots 0 mine 1 theirs 2 is_like 3 a 4 b 5 key -/
def rd__law_exact (F__law_exact : FC) : FS := (sSeq (sIf (tVal (fIsiT [.list, .tuple] (fVar 0))) (sSeq (sAsg 2 (fAnd (f2 gEq (fIsi .list (fVar 1)) (fIsi .list (fVar 0))) (f2 gEq (fIsi .tuple (fVar 1)) (fIsi .tuple (fVar 0))))) (sRet (fAnd (fVar 2) (fAnd (f2 gEq (fCl gLen (aCons (fVar 0) aNil)) (fCl gLen (aCons (fVar 1) aNil))) (fCl gAll (aCons (fFrz (oComp (iZipD (aCons (fVar 0) (aCons (fVar 1) aNil))) (gT 2 (gsCons (gN 3) (gsCons (gN 4) gsNil))) tYesD (fCall 2 F__law_exact [] (aCons (fVar 3) (aCons (fVar 4) aNil))) [3, 4])) aNil)))))) sNext) (sSeq (sIf (tVal (fIsi .dict (fVar 0))) (sSeq (sAsg 2 (fAnd (fIsi .dict (fVar 1)) (fCall 2 F__law_exact [] (aCons (fFrz (oCl oList (aCons (fVar 0) aNil))) (aCons (fFrz (oCl oList (aCons (fVar 1) aNil))) aNil))))) (sRet (fAnd (fVar 2) (fCl gAll (aCons (fFrz (oComp (iSeqN 0) (gN 5) tYesD (fCall 2 F__law_exact [] (aCons (f2 gIx (fVar 0) (fVar 5)) (aCons (f2 gIx (fVar 1) (fVar 5)) aNil))) [5])) aNil))))) sNext) (sSeq (sIf (tOrD (tVal (fIsiT [.list, .tuple, .dict] (fVar 1))) (tVal (f2 gNe (f2 gIsN (fVar 0) (fC .non)) (f2 gIsN (fVar 1) (fC .non))))) (sRet (fC (.bl false))) sNext) (sSeq (sAsg 2 (fAnd (f2 gEq (fIsi .int (fVar 0)) (fIsi .int (fVar 1))) (f2 gEq (fIsi .str (fVar 0)) (fIsi .str (fVar 1))))) (sRet (fAnd (fVar 2) (fAnd (f2 gEq (fIsi .bool (fVar 0)) (fIsi .bool (fVar 1))) (f2 gEq (fVar 0) (fVar 1)))))))))
/-- _law_dices(script, few), slots 0 script 1 few 2 at -/
def rd__law_dices (F__law_dice : FC) : FS := (sRetO (oComp (iRange1 (aCons (fCl gMax (aCons (fC (.int 1)) (aCons (fCl gMin (aCons (fVar 1) (aCons (fCl gLen (aCons (fVar 0) aNil)) aNil))) aNil))) aNil)) (gN 2) tYesD (fCall 2 F__law_dice [] (aCons (fVar 0) (aCons (fVar 2) aNil))) [2]))
/-- _law_words_of(signs, size), slots 0 signs 1 size 2 found 3 spin 4 longer 5 word 6 sign -/
def rd__law_words_of : FS := (sSeq (sAsg 2 (fFrz (oLst (aCons (fC (.str [])) aNil)))) (sSeq (sFor (iRange1 (aCons (fVar 1) aNil)) (nN 3) (sSeq (sAsg 4 (fFrz (oLst aNil))) (sSeq (sFor (iSeqN 2) (nN 5) (sAsg 4 (f2 gAdd3 (fVar 4) (fFrz (oComp (iSeq (fFrz (oCl oList (aCons (fVar 0) aNil)))) (gN 6) tYesD (f2 gAdd3 (fVar 5) (fVar 6)) [6]))))) (sAsg 2 (fVar 4))))) (sRet (fVar 2))))
/-- _law_power(base, many), slots 0 base 1 many 2 found 3 spin -/
def rd__law_power : FS := (sSeq (sAsg 2 (fC (.int 1))) (sSeq (sFor (iRange1 (aCons (fVar 1) aNil)) (nN 3) (sAsg 2 (f2 gMul (fVar 2) (fVar 0)))) (sRet (fVar 2))))
/-- _law_is_primitive(word), slots 0 word 1 size -/
def rd__law_is_primitive : FS := (sRet (fNot (fCl gAny (aCons (fFrz (oComp (iRange2 (aCons (fC (.int 1)) (aCons (fCl gLen (aCons (fVar 0) aNil)) aNil))) (gN 1) tYesD (fAnd (f2 gEq (f2 gMod (fCl gInt (aCons (fCl gLen (aCons (fVar 0) aNil)) aNil)) (fVar 1)) (fC (.int 0))) (f2 gEq (f2 gMul (fSl (fVar 0) oNo (oSo (fVar 1))) (f2 gDiv (fCl gLen (aCons (fVar 0) aNil)) (fVar 1))) (fVar 0))) [1])) aNil))))
/-- _law_divisors(number), slots 0 number 1 late -/
def rd__law_divisors : FS := (sRetO (oComp (iRange2 (aCons (fC (.int 1)) (aCons (f2 gAdd3 (fVar 0) (fC (.int 1))) aNil))) (gN 1) (tVal (f2 gEq (f2 gMod (fCl gInt (aCons (fVar 0) aNil)) (fVar 1)) (fC (.int 0)))) (fVar 1) [1]))
/-- _law_root(word), slots 0 word 1 some 2 size -/
def rd__law_root : FS := (sSeq (sAsg 1 (fFrz (oComp (iRange2 (aCons (fC (.int 1)) (aCons (f2 gAdd3 (fCl gLen (aCons (fVar 0) aNil)) (fC (.int 1))) aNil))) (gN 2) (tAndD (tVal (f2 gEq (f2 gMod (fCl gInt (aCons (fCl gLen (aCons (fVar 0) aNil)) aNil)) (fVar 2)) (fC (.int 0)))) (tVal (f2 gEq (f2 gMul (fSl (fVar 0) oNo (oSo (fVar 2))) (f2 gDiv (fCl gLen (aCons (fVar 0) aNil)) (fVar 2))) (fVar 0)))) (fVar 2) [2]))) (sRet (fTup (aCons (fSl (fVar 0) oNo (oSo (f2 gIx (fVar 1) (fC (.int 0))))) (aCons (f2 gDiv (fCl gLen (aCons (fVar 0) aNil)) (f2 gIx (fVar 1) (fC (.int 0)))) aNil)))))
/-- _law_small_right(signs, length), slots 0 signs 1 length 2 words 3 due 4 word -/
def rd__law_small_right (F__law_exact : FC) (F__law_is_primitive : FC) (F__law_root : FC) (F__law_words_of : FC) (F_many_primitives : FC) (F_root : FC) : FS := (sSeq (sAsg 2 (fCall 2 F__law_words_of [] (aCons (fSl (fC (.str [97, 98, 99, 100])) oNo (oSo (fVar 0))) (aCons (fVar 1) aNil)))) (sSeq (sAsg 3 (fCl gLen (aCons (fFrz (oComp (iSeqN 2) (gN 4) (tTru (fCall 1 F__law_is_primitive [] (aCons (fVar 4) aNil))) (fVar 4) [4])) aNil))) (sSeq (sIf (tNotD (tTru (fCall 2 F__law_exact [] (aCons (fCall 2 F_many_primitives [] (aCons (fVar 0) (aCons (fVar 1) aNil))) (aCons (fVar 3) aNil))))) (sRet (fC (.bl false))) sNext) (sRet (fCl gAll (aCons (fFrz (oComp (iSeq (f2 gAdd3 (fSl (fVar 2) oNo (oSo (fC (.int 40)))) (fSl (fVar 2) (oSo (f1 gNeg (fC (.int 40)))) oNo))) (gN 4) tYesD (fCall 2 F__law_exact [] (aCons (fCall 1 F_root [] (aCons (fVar 4) aNil)) (aCons (fCall 1 F__law_root [] (aCons (fVar 4) aNil)) aNil))) [4])) aNil))))))
/-- _law_great_right(signs, length), slots 0 signs 1 length 2 due 3 late 4 less -/
def rd__law_great_right (F__law_divisors : FC) (F__law_exact : FC) (F__law_power : FC) (F_many_primitives : FC) : FS := (sSeq (sDct 2) (sSeq (sFor (iSeq (fCall 1 F__law_divisors [] (aCons (fVar 1) aNil))) (nN 3) (sSetDV 2 (f2 gSub (fCall 2 F__law_power [] (aCons (fVar 0) (aCons (fVar 3) aNil))) (fCl gSum (aCons (fFrz (oComp (iSeqN 2) (gN 4) (tVal (f2 gEq (f2 gMod (fCl gInt (aCons (fVar 3) aNil)) (fVar 4)) (fC (.int 0)))) (f2 gIx (fVar 2) (fVar 4)) [4])) aNil))) (fVar 3))) (sRetV (fCl gAll (aCons (fFrz (oComp (iSeqN 2) (gN 3) tYesD (fCall 2 F__law_exact [] (aCons (fCall 2 F_many_primitives [] (aCons (fVar 0) (aCons (fVar 3) aNil))) (aCons (f2 gIx (fVar 2) (fVar 3)) aNil))) [3])) aNil)))))
/-- law(script), slots 0 script 1 dice 2 signs 3 length 4 many 5 prime 6 told -/
def rd_law (F__law_dices : FC) (F__law_draw : FC) (F__law_exact : FC) (F__law_great_right : FC) (F__law_one_of : FC) (F__law_power : FC) (F__law_small_right : FC) (F_many_primitives : FC) : FS := (sSeq (sFor (iSeq (fCall 2 F__law_dices [] (aCons (fVar 0) (aCons (fC (.int 1)) aNil)))) (nN 1) (sSeq (sPar [2, 3] (xCons (xV (f2 gAdd3 (fC (.int 1)) (fCall 2 F__law_draw [] (aCons (fVar 1) (aCons (fC (.int 3)) aNil))))) (xCons (xV (f2 gAdd3 (fC (.int 1)) (fCall 2 F__law_draw [] (aCons (fVar 1) (aCons (fC (.int 6)) aNil))))) xNil))) (sSeq (sIf (tOrD (tNotD (tTru (fCall 2 F__law_small_right [] (aCons (fVar 2) (aCons (fVar 3) aNil))))) (tOrD (tNotD (tTru (fCall 2 F__law_small_right [] (aCons (fC (.int 4)) (aCons (f2 gAdd3 (fC (.int 1)) (fCall 2 F__law_draw [] (aCons (fVar 1) (aCons (fC (.int 4)) aNil)))) aNil))))) (tNotD (tTru (fCall 2 F__law_small_right [] (aCons (fC (.int 2)) (aCons (f2 gAdd3 (fC (.int 6)) (fCall 2 F__law_draw [] (aCons (fVar 1) (aCons (fC (.int 2)) aNil)))) aNil))))))) (sRet (fC (.bl false))) sNext) (sFor (iSeq (fTup (aCons (f2 gAdd3 (fC (.int 2)) (fCall 2 F__law_draw [] (aCons (fVar 1) (aCons (fC (.int 30)) aNil)))) (aCons (f2 gAdd3 (f2 gPow (fC (.int 10)) (fC (.int 29))) (fCall 2 F__law_draw [] (aCons (fVar 1) (aCons (f2 gPow (fC (.int 10)) (fC (.int 6))) aNil)))) aNil)))) (nN 4) (sSeq (sIf (tOrD (tNotD (tTru (fCall 2 F__law_great_right [] (aCons (fVar 4) (aCons (f2 gAdd3 (fC (.int 1)) (fCall 2 F__law_draw [] (aCons (fVar 1) (aCons (fC (.int 60)) aNil)))) aNil))))) (tNotD (tTru (fCall 2 F__law_great_right [] (aCons (fVar 4) (aCons (fCall 2 F__law_one_of [] (aCons (fVar 1) (aCons (fFrz (oLst (aCons (fC (.int 12)) (aCons (fC (.int 24)) (aCons (fC (.int 36)) (aCons (fC (.int 60)) (aCons (fC (.int 120)) aNil))))))) aNil))) aNil)))))) (sRet (fC (.bl false))) sNext) (sSeq (sAsg 5 (fCall 2 F__law_one_of [] (aCons (fVar 1) (aCons (fFrz (oLst (aCons (fC (.int 2)) (aCons (fC (.int 3)) (aCons (fC (.int 5)) (aCons (fC (.int 7)) aNil)))))) aNil)))) (sSeq (sAsg 6 (fFrz (oLst (aCons (fCall 2 F_many_primitives [] (aCons (fVar 4) (aCons (fC (.int 1)) aNil))) (aCons (fCall 2 F_many_primitives [] (aCons (fVar 4) (aCons (fVar 5) aNil))) (aCons (fCall 2 F_many_primitives [] (aCons (fVar 4) (aCons (f2 gMul (fVar 5) (fVar 5)) aNil))) aNil)))))) (sIf (tNotD (tTru (fCall 2 F__law_exact [] (aCons (fVar 6) (aCons (fFrz (oLst (aCons (fVar 4) (aCons (f2 gSub (fCall 2 F__law_power [] (aCons (fVar 4) (aCons (fVar 5) aNil))) (fVar 4)) (aCons (f2 gSub (fCall 2 F__law_power [] (aCons (fVar 4) (aCons (f2 gMul (fVar 5) (fVar 5)) aNil))) (fCall 2 F__law_power [] (aCons (fVar 4) (aCons (fVar 5) aNil)))) aNil))))) aNil))))) (sRet (fC (.bl false))) sNext)))))))) (sRet (fCall 2 F__law_exact [] (aCons (fFrz (oLst (aCons (fCall 2 F_many_primitives [] (aCons (fC (.int 1)) (aCons (fC (.int 1)) aNil))) (aCons (fCall 2 F_many_primitives [] (aCons (fC (.int 1)) (aCons (fC (.int 12)) aNil))) (aCons (fCall 2 F_many_primitives [] (aCons (fC (.int 2)) (aCons (fC (.int 4)) aNil))) aNil))))) (aCons (fFrz (oLst (aCons (fC (.int 1)) (aCons (fC (.int 0)) (aCons (fC (.int 12)) aNil))))) aNil)))))
end K04

/-! ## Math_K04 -/
namespace K04
open PySem L2 DL
/-! ### numbers of primitive words -/
/-- one behind the other: a size, what is left of all words of this size -/
def psiN (s : Nat) (acc : List (Nat × Int)) (k : Nat) : Int := (s : Int) ^ k - ((acc.filter fun p => k % p.1 == 0).map (·.2)).sum
def psiL (s : Nat) : Nat → List (Nat × Int)
  | 0 => []
  | k + 1 => psiL s k ++ [(k + 1, psiN s (psiL s k) (k + 1))]
def psi (s k : Nat) : Int := psiN s (psiL s (k - 1)) k
theorem psiL_keys (s : Nat) : ∀ k, (psiL s k).map (·.1) = upto (k + 1)
  | 0 => rfl
  | k + 1 => by
    rw [psiL, List.map_append, psiL_keys s k]
    unfold upto
    rw [show k + 1 + 1 - 1 = k + 1 from rfl, show k + 1 - 1 = k from rfl, List.range_succ, List.map_append]
    simp
    omega
theorem psiL_mem {s : Nat} : ∀ {k : Nat} {p : Nat × Int}, p ∈ psiL s k → 1 ≤ p.1 ∧ p.1 ≤ k ∧ p.2 = psi s p.1
  | 0, p, h => by simp [psiL] at h
  | k + 1, p, h => by
    rw [psiL] at h
    rcases List.mem_append.mp h with h | h
    · have := psiL_mem h
      exact ⟨this.1, by omega, this.2.2⟩
    · simp at h
      subst h
      exact ⟨by simp, by simp, rfl⟩
/-- the sizes that divide n -/
def divL (s n k : Nat) : List (Nat × Int) := (psiL s k).filter fun p => n % p.1 == 0
theorem divL_next (s n k : Nat) : divL s n (k + 1) = if n % (k + 1) = 0 then divL s n k ++ [(k + 1, psi s (k + 1))] else divL s n k := by
  unfold divL
  rw [psiL, List.filter_append]
  by_cases h : n % (k + 1) = 0
  · rw [if_pos h]; simp [h]; rfl
  · rw [if_neg h]; simp [h]
theorem psiN_div {s n k : Nat} (h : n % k = 0) (hk : 1 ≤ k) : psiN s (divL s n (k - 1)) k = psi s k := by
  unfold psiN psi divL
  unfold psiN
  congr 3
  rw [List.filter_filter]
  refine List.filter_congr fun p hp => ?_
  have := psiL_mem hp
  by_cases hd : k % p.1 = 0
  · have : n % p.1 = 0 := Nat.mod_eq_zero_of_dvd (Nat.dvd_trans (Nat.dvd_of_mod_eq_zero hd) (Nat.dvd_of_mod_eq_zero h))
    simp [hd, this]
  · simp [hd]
abbrev IP (ps : List (Nat × Int)) : List D := ps.map fun p => D.int (p.1 : Nat)
abbrev VP (ps : List (Nat × Int)) : List D := ps.map fun p => D.int p.2
theorem dGet_ip {ps : List (Nat × Int)} {p : Nat × Int} (hn : (ps.map (·.1)).Nodup) (hp : p ∈ ps) : dGet (IP ps) (VP ps) (.int (p.1 : Nat)) = some (.int p.2) := by
  induction ps with
  | nil => cases hp
  | cons q ps ih =>
    rw [List.map_cons, List.nodup_cons] at hn
    simp only [IP, VP, List.map_cons, dGet]
    rcases List.mem_cons.mp hp with rfl | hp
    · rw [if_pos rfl]
    · have hne : ¬ D.int (q.1 : Nat) = D.int (p.1 : Nat) := fun e => by
        have e1 : q.1 = p.1 := by injection e with e; omega
        exact hn.1 (e1 ▸ List.mem_map.mpr ⟨p, hp, rfl⟩)
      rw [if_neg hne]
      exact ih hn.2 hp
theorem ip_not {ps : List (Nat × Int)} {k : Nat} (h : ∀ p ∈ ps, p.1 ≠ k) : ¬ D.int (k : Nat) ∈ IP ps := by
  intro hm
  obtain ⟨p, hp, e⟩ := List.mem_map.mp hm
  injection e with e
  exact h p hp (by omega)
theorem putVs_new {k v : D} : ∀ {ks vs : List D}, ks.length = vs.length → ¬ k ∈ ks → putVs ks vs k v = vs ++ [v]
  | [], [], _, _ => by simp [putVs]
  | [], _ :: _, h, _ => by simp at h
  | _ :: _, [], h, _ => by simp at h
  | a :: ks, b :: vs, h, hn => by
    rw [List.mem_cons, not_or] at hn
    simp only [putVs]
    rw [if_neg fun e => hn.1 e.symm, putVs_new (by simpa using h) hn.2]
    rfl
theorem put_ip {ps : List (Nat × Int)} {k : Nat} {z : Int} (h : ∀ p ∈ ps, p.1 ≠ k) : putKs (IP ps) (.int (k : Nat)) = IP (ps ++ [(k, z)]) ∧ putVs (IP ps) (VP ps) (.int (k : Nat)) (.int z) = VP (ps ++ [(k, z)]) := by
  refine ⟨?_, ?_⟩
  · unfold putKs
    rw [if_neg (ip_not h)]
    simp [IP]
  · rw [putVs_new (by simp) (ip_not h)]
    simp [VP]
theorem divL_nodup (s n k : Nat) : ((divL s n k).map (·.1)).Nodup := by
  have h : ((psiL s k).map (·.1)).Nodup := by
    rw [psiL_keys]
    exact (upto_inc _).imp fun h => Nat.ne_of_lt h
  exact h.sublist (List.Sublist.map _ List.filter_sublist)
/-- numbers that are not too great: at most 128 k bits -/
theorem pow_log {s k : Nat} (h : s < 2 ^ 100) (hk : k ≤ 200) : ((s : Int) ^ k).natAbs.log2 ≤ 20000 := by
  have h1 : ((s : Int) ^ k).natAbs = s ^ k := by
    rw [Int.natAbs_pow]; rfl
  rw [h1]
  have h2 : s ^ k ≤ (2 ^ 100) ^ k := Nat.pow_le_pow_left (Nat.le_of_lt h) k
  rw [← Nat.pow_mul] at h2
  have h3 : 2 ^ (100 * k) ≤ 2 ^ 20000 := Nat.pow_le_pow_right (by decide) (by omega)
  have h4 : s ^ k < 2 ^ 20001 := by
    refine Nat.lt_of_le_of_lt (Nat.le_trans h2 h3) ?_
    exact Nat.pow_lt_pow_right (by decide) (by decide)
  by_cases h0 : s ^ k = 0
  · rw [h0]; exact Nat.zero_le _
  · have := (Nat.log2_lt h0).mpr h4
    omega
theorem pow_mulOk {s k : Nat} (h : s < 2 ^ 100) (hk : k ≤ 200) : MulOk ((s : Int) ^ k) (s : Int) := by
  refine .inr ?_
  have h1 := pow_log h hk
  have h2 := pow_log (k := 1) h (by omega)
  rw [Int.pow_one] at h2
  omega
theorem mod0 (a b : Nat) : ((a : Int) % (b : Int) = 0) = (a % b = 0) := by
  rw [eq_iff_iff]; omega
theorem mod0' (a b : Nat) : ((a : Int) % ((b : Int) + 1) = 0) = (a % (b + 1) = 0) := mod0 a (b + 1)
theorem mod0'' (a b : Nat) : (((a : Int) + 1) % (b : Int) = 0) = ((a + 1) % b = 0) := mod0 (a + 1) b
/-! ### contracts -/
def F_many_words : FC := fun ds n Q => ∃ s k : Nat, ds = [.int s, .int k] ∧ s < 2 ^ 100 ∧ k ≤ 200 ∧ Q (.val (.int ((s : Int) ^ k))) n
def F__law_power : FC := F_many_words
def F_primitives : FC := fun ds n Q => ∃ s k : Nat, ds = [.int s, .int k] ∧ s < 2 ^ 100 ∧ 1 ≤ k ∧ k ≤ 200 ∧ Q (.val (.int (psi s k))) n
def F_many_primitives : FC := fun ds n Q => ∃ s k : Nat, ds = [.int s, .int k] ∧ 1 ≤ s ∧ s < 2 ^ 100 ∧ 1 ≤ k ∧ k ≤ 200 ∧ Q (.val (.int (psi s k))) n
theorem law_many_words : ∀ ds n Q, F_many_words ds n Q → ds.length = 2 → rd_many_words { nx := fun _ m => Q (.val .non) m, rt := Q } (startE 2 ds) n := by
  rintro ds n Q ⟨s, k, rfl, hs, hk, h⟩ _
  simp [sSeq, rd_many_words]
  refine ⟨by omega, ?_⟩
  rw [ups_eq]
  refine forD_inv (fun pre env m => (∃ x3, env = [some (.val (.int s)), some (.val (.int k)), some (.val (.int ((s : Int) ^ pre.length))), x3]) ∧ m = n) ?_ ?_ ⟨⟨none, by simp⟩, rfl⟩
  · rintro pre a post env m next hx ⟨⟨x3, rfl⟩, rfl⟩ hn
    have := range_pre hx
    simp
    refine ⟨pow_mulOk hs (by omega), hn _ _ ⟨⟨some (.val (.int (a : Nat))), by simp [Int.pow_succ]⟩, rfl⟩⟩
  · rintro env m ⟨⟨x3, rfl⟩, rfl⟩
    simpa using h
theorem law__law_power : ∀ ds n Q, F__law_power ds n Q → ds.length = 2 → rd__law_power { nx := fun _ m => Q (.val .non) m, rt := Q } (startE 2 ds) n := by
  rintro ds n Q ⟨s, k, rfl, hs, hk, h⟩ _
  simp [sSeq, rd__law_power]
  refine ⟨by omega, ?_⟩
  rw [ups_eq]
  refine forD_inv (fun pre env m => (∃ x3, env = [some (.val (.int s)), some (.val (.int k)), some (.val (.int ((s : Int) ^ pre.length))), x3]) ∧ m = n) ?_ ?_ ⟨⟨none, by simp⟩, rfl⟩
  · rintro pre a post env m next hx ⟨⟨x3, rfl⟩, rfl⟩ hn
    have := range_pre hx
    simp
    refine ⟨pow_mulOk hs (by omega), hn _ _ ⟨⟨some (.val (.int (a : Nat))), by simp [Int.pow_succ]⟩, rfl⟩⟩
  · rintro env m ⟨⟨x3, rfl⟩, rfl⟩
    simpa using h
theorem law_primitives : ∀ ds n Q, F_primitives ds n Q → ds.length = 2 → rd_primitives F_many_words { nx := fun _ m => Q (.val .non) m, rt := Q } (startE 3 ds) n := by
  rintro ds n Q ⟨s, k, rfl, hs, hk1, hk, h⟩ _
  simp [sSeq, rd_primitives]
  refine ⟨by omega, ?_⟩
  rw [show ups 1 k = I (upto (k + 1)) from ups_upto' (k + 1)]
  refine forD_inv (fun pre env m => (∃ x3, env = [some (.val (.int s)), some (.val (.int k)), some (.ownd (IP (divL s k pre.length)) (VP (divL s k pre.length))), x3, none]) ∧ m = n) ?_ ?_ ⟨⟨none, rfl⟩, rfl⟩
  · rintro pre a post env m next hx ⟨⟨x3, rfl⟩, rfl⟩ hn
    have ha : a = pre.length + 1 ∧ a ≤ k := by
      unfold upto at hx
      have h1 : pre.length < k := by
        have := congrArg List.length hx
        simp at this; omega
      have h2 := congrArg (fun l : List Nat => l[pre.length]?) hx
      simp [h1] at h2
      omega
    obtain ⟨rfl, hak⟩ := ha
    simp
    by_cases hd : k % (pre.length + 1) = 0
    · rw [if_pos ((mod0' _ _).mpr hd)]
      refine ⟨s, pre.length + 1, by simp, hs, by omega, ?_⟩
      simp
      refine goD_filter (fun p : Nat × Int => (pre.length + 1) % p.1 == 0) (fun p => D.int p.2) (fun p hp m K hT hF => ?_) ?_
      · have hpm := psiL_mem (List.mem_filter.mp hp).1
        simp [stepD]
        refine ⟨by omega, ?_⟩
        by_cases hc : (pre.length + 1) % p.1 = 0
        · rw [if_pos ((mod0'' _ _).mpr hc)]
          refine ⟨_, dGet_ip (divL_nodup _ _ _) hp, hT (by simp [hc])⟩
        · rw [if_neg fun z => hc ((mod0'' _ _).mp z)]
          exact hF (by simp [hc])
      · refine ⟨((divL s k pre.length).filter fun p => (pre.length + 1) % p.1 == 0).map (·.2), by rw [List.map_map]; rfl, ?_⟩
        have hnew : ∀ p ∈ divL s k pre.length, p.1 ≠ pre.length + 1 := fun p hp => by
          have := psiL_mem (List.mem_filter.mp hp).1
          omega
        have hlen : (divL s k pre.length).length ≤ pre.length := by
          have h1 := List.length_filter_le (fun p : Nat × Int => k % p.1 == 0) (psiL s pre.length)
          have h2 := congrArg List.length (psiL_keys s pre.length)
          rw [List.length_map, upto_len] at h2
          exact Nat.le_trans h1 (by omega)
        have hz := psiN_div (s := s) hd (by omega)
        rw [show pre.length + 1 - 1 = pre.length from rfl] at hz
        unfold psiN at hz
        rw [hz]
        refine ⟨_, _, ⟨rfl, rfl⟩, by rw [List.length_map]; omega, ?_⟩
        have hput := put_ip (z := psi s (pre.length + 1)) hnew
        rw [show ((pre.length : Int) + 1) = ((pre.length + 1 : Nat) : Int) from rfl, hput.1, hput.2]
        refine hn _ _ ⟨⟨some (.val (.int ((pre.length + 1 : Nat) : Int))), ?_⟩, rfl⟩
        rw [List.length_append]
        simp [divL_next, hd]
    · rw [if_neg fun z => hd ((mod0' _ _).mp z)]
      refine hn _ _ ⟨⟨some (.val (.int (pre.length + 1))), ?_⟩, rfl⟩
      rw [List.length_append]
      simp [divL_next, hd]
  · rintro env m ⟨⟨x3, rfl⟩, rfl⟩
    rw [upto_len, show k + 1 - 1 = k from rfl]
    simp
    have hm : (k, psi s k) ∈ divL s k k := by
      obtain ⟨j, rfl⟩ : ∃ j, k = j + 1 := ⟨k - 1, by omega⟩
      rw [divL_next, if_pos (Nat.mod_self _)]
      simp
    exact ⟨_, dGet_ip (divL_nodup _ _ _) hm, by simpa using h⟩
theorem law_many_primitives : ∀ ds n Q, F_many_primitives ds n Q → ds.length = 2 → rd_many_primitives F_check_from F_primitives { nx := fun _ m => Q (.val .non) m, rt := Q } (startE 0 ds) n := by
  rintro ds n Q ⟨s, k, rfl, hs1, hs, hk1, hk, h⟩ _
  simp [sSeq, rd_many_primitives]
  exact ⟨s, 1, rfl, by omega, by omega, k, 1, rfl, by omega, by omega, s, k, rfl, hs, hk1, hk, h⟩
end K04

/-! ## DLG1 -/
/-! DLG1: grounds: an object under an invariant, its dict of what was reckoned under another -/
namespace DL
open PySem PySem.Spec PyProof.Rows L2
/-- a ground -/
abbrev gnd (s : List Nat) (g : Nat) : D := .box 1 [.str s, .int (g : Nat)]
def gf (s : List Nat) (g : Nat) (kn : Addr) : List (Str × V) := putF "known" (.ref kn) (putF "span" (.int (2 * (g : Int) - 2)) (putF "least" (.int g) (putF "row" (.str ⟨s.toArray⟩) [])))
theorem nm_ne : ¬ (("row" : Str) = "least") ∧ ¬ (("row" : Str) = "span") ∧ ¬ (("row" : Str) = "known") ∧ ¬ (("least" : Str) = "span") ∧ ¬ (("least" : Str) = "known") ∧ ¬ (("span" : Str) = "known") := by decide +kernel
theorem gf_row (s : List Nat) (g : Nat) (kn : Addr) : (gf s g kn).lookup ("row" : Str) = some (V.str ⟨s.toArray⟩) := by
  unfold gf
  rw [lookup_putF, if_neg nm_ne.2.2.1, lookup_putF, if_neg nm_ne.2.1, lookup_putF, if_neg nm_ne.1, lookup_putF, if_pos rfl]
theorem gf_least (s : List Nat) (g : Nat) (kn : Addr) : (gf s g kn).lookup ("least" : Str) = some (V.int g) := by
  unfold gf
  rw [lookup_putF, if_neg nm_ne.2.2.2.2.1, lookup_putF, if_neg nm_ne.2.2.2.1, lookup_putF, if_pos rfl]
theorem gf_span (s : List Nat) (g : Nat) (kn : Addr) : (gf s g kn).lookup ("span" : Str) = some (V.int (2 * (g : Int) - 2)) := by
  unfold gf
  rw [lookup_putF, if_neg nm_ne.2.2.2.2.2, lookup_putF, if_pos rfl]
theorem gf_known (s : List Nat) (g : Nat) (kn : Addr) : (gf s g kn).lookup ("known" : Str) = some (V.ref kn) := by
  unfold gf
  rw [lookup_putF, if_pos rfl]
/-- a kit with nothing of its own, for what the invariants say -/
def kitN (K : PySem.W.Frag) : Kit := ⟨K, fun _ => none, fun _ _ _ _ => False, fun _ _ _ _ _ _ _ _ h => h.elim⟩
/-- what may be noted of a ground: by names, what each one tells -/
abbrev CV := List Nat → Nat → Key → Option D
def GrdJ (C : Addr) (s : List Nat) (g : Nat) (P : Wd) (o : HO) : Prop := OkS s ∧ ∃ dx kn, o = .ins C dx (gf s g kn) ∧ P.iv kn = some (2, [.str s, .int (g : Nat)])
def KnJ (K : PySem.W.Frag) (cv : CV) (s : List Nat) (g : Nat) (P : Wd) (o : HO) : Prop := ∃ kvs : List (Key × V), o = .dK kvs ∧ (kvs.map (·.1)).Nodup ∧ ∀ k v, valV kvs k = some v → ∃ d, cv s g k = some d ∧ Rep (kitN K) P.fz P.iv v d
def kitG (K : PySem.W.Frag) (C : Addr) (cv : CV) : Kit where
  K := K
  cls := fun _ => none
  J := fun t ps P o => (t = 0 ∧ ps = [] ∧ DiceJ P o) ∨ (∃ s g, t = 1 ∧ ps = [.str s, .int (g : Nat)] ∧ GrdJ C s g P o) ∨ ∃ s g, t = 2 ∧ ps = [.str s, .int (g : Nat)] ∧ KnJ K cv s g P o
  mono := fun t ps P P' o hf hi hn h => by
    rcases h with ⟨h1, h2, h3⟩ | ⟨s, g, h1, h2, ho, dx, kn, h3, h4⟩ | ⟨s, g, h1, h2, kvs, h3, h4, h5⟩
    · exact .inl ⟨h1, h2, h3.mono hn⟩
    · exact .inr (.inl ⟨s, g, h1, h2, ho, dx, kn, h3, hi _ _ h4⟩)
    · refine .inr (.inr ⟨s, g, h1, h2, kvs, h3, h4, fun k v e => ?_⟩)
      obtain ⟨d, q1, q2⟩ := h5 k v e
      exact ⟨d, q1, q2.mono hf hi⟩
/-- the names under which something may be noted -/
def ckeys : List Key := [.inr "own", .inr "near", .inr "rounds"]
/-- a kit whose objects of kind 1 and 2 are grounds and what is noted of them -/
structure HasGnd (κ : Kit) (C : Addr) (cv : CV) : Prop where
  d : HasDice κ
  ck : ∀ s g k d, cv s g k = some d → k ∈ ckeys
  j1 : ∀ s g P o, κ.J 1 [.str s, .int (g : Nat)] P o ↔ GrdJ C s g P o
  j2 : ∀ s g P o, κ.J 2 [.str s, .int (g : Nat)] P o ↔ KnJ κ.K cv s g P o
theorem kitG_has {K : PySem.W.Frag} {C : Addr} {cv : CV} (hcv : ∀ s g k d, cv s g k = some d → k ∈ ckeys) : HasGnd (kitG K C cv) C cv where
  ck := hcv
  d := fun P o => by
    refine ⟨fun h => ?_, fun h => .inl ⟨rfl, rfl, h⟩⟩
    rcases h with h | ⟨s, g, h, _⟩ | ⟨s, g, h, _⟩
    · exact h.2.2
    · cases h
    · cases h
  j1 := fun s g P o => by
    refine ⟨fun h => ?_, fun h => .inr (.inl ⟨s, g, rfl, rfl, h⟩)⟩
    rcases h with ⟨h, _⟩ | ⟨s', g', _, e, h⟩ | ⟨s', g', h, _⟩
    · cases h
    · simp only [List.cons.injEq, D.str.injEq, D.int.injEq, and_true] at e
      obtain ⟨rfl, e⟩ := e
      have : g = g' := by omega
      subst this
      exact h
    · cases h
  j2 := fun s g P o => by
    refine ⟨fun h => ?_, fun h => .inr (.inr ⟨s, g, rfl, rfl, h⟩)⟩
    rcases h with ⟨h, _⟩ | ⟨s', g', h, _⟩ | ⟨s', g', _, e, h⟩
    · cases h
    · cases h
    · simp only [List.cons.injEq, D.str.injEq, D.int.injEq, and_true] at e
      obtain ⟨rfl, e⟩ := e
      have : g = g' := by omega
      subst this
      exact h
mutual
/-- what stands by the kit with nothing stands by any -/
theorem Rep.ofN {κ : Kit} {G : Hp} {iv : IV} : ∀ {v : V} {d : D}, Rep (kitN κ.K) G iv v d → Rep κ G iv v d
  | _, _, .non => .non
  | _, _, .bl => .bl
  | _, _, .int => .int
  | _, _, .str h => .str h
  | _, _, .lst h z r => .lst h z (Reps.ofN r)
  | _, _, .tup h z r => .tup h z (Reps.ofN r)
  | _, _, .dctK h hl z nd r => .dctK h hl z nd (Reps.ofN r)
  | _, _, .dctT h hl z nd r => .dctT h hl z nd (Reps.ofN r)
  | _, _, .obj hc h hl r => by cases hc
  | _, _, .box h => .box h
  | _, _, .scr h z => .scr h z
theorem Reps.ofN {κ : Kit} {G : Hp} {iv : IV} : ∀ {vs : List V} {ds : List D}, Reps (kitN κ.K) G iv vs ds → Reps κ G iv vs ds
  | _, _, .nil => .nil
  | _, _, .cons r t => .cons (Rep.ofN r) (Reps.ofN t)
end
/-- what the top has left of the class -/
structure GndF (K : PySem.W.Frag) (C : Addr) : Prop where
  cl : Cls K C
  nR : NoAttr K C "row"
  nL : NoAttr K C "least"
  nS : NoAttr K C "span"
  nK : NoAttr K C "known"
  ha : PySem.W.findIn K (.ref C) "__class__" = some (some (.builtin "object.__class__"))
  hn : PySem.W.specialIn K (.builtin "object.__class__") "__get__" = some (some (.builtin "getset_descriptor.__get__"))
  htk : PySem.W.takesIn K (.builtin "object.__class__") = some true
  hm : PySem.W.mroIn K C (.type "object") = some true
  kp : PySem.W.keepIn K (.ref C) = true
  iN : PySem.W.kitOne K (.type "NoneType") (.ref C) = some false
  iB : PySem.W.kitOne K (.type "bool") (.ref C) = some false
  iI : PySem.W.kitOne K (.type "int") (.ref C) = some false
  iS : PySem.W.kitOne K (.type "str") (.ref C) = some false
  iL : PySem.W.kitOne K (.type "list") (.ref C) = some false
  iT : PySem.W.kitOne K (.type "tuple") (.ref C) = some false
  iD : PySem.W.kitOne K (.type "dict") (.ref C) = some false
section
variable {κ : Kit} {X : Cx} {C : Addr} {cv : CV} {a b c e : Expr} {es : List Expr} {fa fb f : FE} {far : FA} {pos p p2 : Pos}
/-- the object of a ground -/
theorem HasGnd.at (hG : HasGnd κ C cv) {P : Wd} {G H : Hp} {v : V} {s : List Nat} {g : Nat} (gd : Good κ P G H) (r : Rep κ G P.iv v (gnd s g)) :
    ∃ a dx kn, v = .ref a ∧ OkS s ∧ P.iv a = some (1, [.str s, .int (g : Nat)]) ∧ H a = some (.ins C dx (gf s g kn)) ∧ P.iv kn = some (2, [.str s, .int (g : Nat)]) := by
  cases r with
  | @box a _ _ h =>
    obtain ⟨_, o, q1, q2⟩ := gd.gi a _ h
    obtain ⟨ho, dx, kn, rfl, q3⟩ := (hG.j1 s g P o).mp q2
    exact ⟨a, dx, kn, rfl, ho, h, q1, q3⟩
/-- .row, .least, .span -/
def gRow (d : D) (n : Nat) (Q : D → Nat → Prop) : Prop := ∃ (s : List Nat) (g : Nat), d = gnd s g ∧ Q (.str s) n
def gLeast (d : D) (n : Nat) (Q : D → Nat → Prop) : Prop := ∃ (s : List Nat) (g : Nat), d = gnd s g ∧ Q (.int (g : Nat)) n
def gSpan (d : D) (n : Nat) (Q : D → Nat → Prop) : Prop := ∃ (s : List Nat) (g : Nat), d = gnd s g ∧ Q (.int (2 * (g : Int) - 2)) n
theorem gnd_inj {s t : List Nat} {g k : Nat} (e : gnd s g = gnd t k) : s = t ∧ g = k := by
  simp only [gnd, D.box.injEq, List.cons.injEq, D.str.injEq, D.int.injEq, and_true, true_and] at e
  exact ⟨e.1, by omega⟩
@[simp] theorem w_row {s : List Nat} {g n : Nat} {Q : D → Nat → Prop} : gRow (gnd s g) n Q = Q (.str s) n := by
  refine propext ⟨?_, fun h => ⟨s, g, rfl, h⟩⟩
  rintro ⟨t, k, e, h⟩
  obtain ⟨rfl, rfl⟩ := gnd_inj e
  exact h
@[simp] theorem w_least {s : List Nat} {g n : Nat} {Q : D → Nat → Prop} : gLeast (gnd s g) n Q = Q (.int (g : Nat)) n := by
  refine propext ⟨?_, fun h => ⟨s, g, rfl, h⟩⟩
  rintro ⟨t, k, e, h⟩
  obtain ⟨rfl, rfl⟩ := gnd_inj e
  exact h
@[simp] theorem w_span {s : List Nat} {g n : Nat} {Q : D → Nat → Prop} : gSpan (gnd s g) n Q = Q (.int (2 * (g : Int) - 2)) n := by
  refine propext ⟨?_, fun h => ⟨s, g, rfl, h⟩⟩
  rintro ⟨t, k, e, h⟩
  obtain ⟨rfl, rfl⟩ := gnd_inj e
  exact h
theorem e_row (hG : HasGnd κ C cv) (hF : GndF X.K C) (ha : DE κ X a fa) (hb : attributeBase a "row" X.env (eval a X.env) = eval a X.env := by rfl) : DE κ X (.Attribute a "row" pos) (f1 gRow fa) := by
  obtain ⟨t, pt, q⟩ := ha
  refine ⟨_, pe_fld pt hb, fun P G H σ env Q R g ev hf hR => q P G H σ env _ _ g ev hf fun v P1 G1 H1 d gr g1 r hq => ?_⟩
  obtain ⟨s, k, rfl, hq⟩ := hq
  obtain ⟨a, dx, kn, rfl, ho, h1, h2, h3⟩ := hG.at g1 r
  exact ⟨a, C, dx, _, _, rfl, h2, hF.cl, hF.nR, gf_row _ _ _, hR _ P1 G1 H1 _ gr g1 (.str ho) hq⟩
theorem e_least (hG : HasGnd κ C cv) (hF : GndF X.K C) (ha : DE κ X a fa) (hb : attributeBase a "least" X.env (eval a X.env) = eval a X.env := by rfl) : DE κ X (.Attribute a "least" pos) (f1 gLeast fa) := by
  obtain ⟨t, pt, q⟩ := ha
  refine ⟨_, pe_fld pt hb, fun P G H σ env Q R g ev hf hR => q P G H σ env _ _ g ev hf fun v P1 G1 H1 d gr g1 r hq => ?_⟩
  obtain ⟨s, k, rfl, hq⟩ := hq
  obtain ⟨a, dx, kn, rfl, ho, h1, h2, h3⟩ := hG.at g1 r
  exact ⟨a, C, dx, _, _, rfl, h2, hF.cl, hF.nL, gf_least _ _ _, hR _ P1 G1 H1 _ gr g1 .int hq⟩
theorem e_span (hG : HasGnd κ C cv) (hF : GndF X.K C) (ha : DE κ X a fa) (hb : attributeBase a "span" X.env (eval a X.env) = eval a X.env := by rfl) : DE κ X (.Attribute a "span" pos) (f1 gSpan fa) := by
  obtain ⟨t, pt, q⟩ := ha
  refine ⟨_, pe_fld pt hb, fun P G H σ env Q R g ev hf hR => q P G H σ env _ _ g ev hf fun v P1 G1 H1 d gr g1 r hq => ?_⟩
  obtain ⟨s, k, rfl, hq⟩ := hq
  obtain ⟨a, dx, kn, rfl, ho, h1, h2, h3⟩ := hG.at g1 r
  exact ⟨a, C, dx, _, _, rfl, h2, hF.cl, hF.nS, gf_span _ _ _, hR _ P1 G1 H1 _ gr g1 .int hq⟩
/-- isinstance(x, Ground) -/
def isG : D → Option Bool
  | .box 1 [.str _, .int _] => some true
  | .non => some false | .bl _ => some false | .int _ => some false | .str _ => some false | .lst _ => some false | .tup _ => some false | .dct _ _ => some false
  | _ => none
def gIsG (d : D) (n : Nat) (Q : D → Nat → Prop) : Prop := (∃ (s : List Nat) (g : Nat), d = gnd s g ∧ Q (.bl true) n) ∨ ((∃ T, tyNm d = some T) ∧ hasTy d = true ∧ Q (.bl false) n)
@[simp] theorem w_isG1 {s : List Nat} {g n : Nat} {Q : D → Nat → Prop} : gIsG (gnd s g) n Q = Q (.bl true) n := by
  refine propext ⟨?_, fun h => .inl ⟨s, g, rfl, h⟩⟩
  rintro (⟨t, k, e, h⟩ | ⟨_, h, _⟩)
  · exact h
  · cases h
theorem w_isG2 {d : D} {n : Nat} {Q : D → Nat → Prop} (h : hasTy d = true) (hq : Q (.bl false) n) : gIsG d n Q := by
  refine .inr ⟨?_, h, hq⟩
  cases d <;> first | exact ⟨_, rfl⟩ | exact absurd h (by simp [hasTy])
theorem e_isG (hG : HasGnd κ C cv) (hF : GndF X.K C) (hm : X.mg "isinstance" = none) (hC : X.mg "Ground" = some (.ref C)) (ha : DE κ X a fa) (hg : Gl X "isinstance" := by rfl) (hgT : Gl X "Ground" := by rfl)
    (he : starEach [a, .Name "Ground" p2] X.env = (false, eval a X.env) :: starEach [.Name "Ground" p2] X.env := by rfl) (he2 : starEach [.Name "Ground" p2] X.env = (false, eval (.Name "Ground" p2) X.env) :: starEach [] X.env := by rfl) (hpl : (backTo pos (starEach [.Name "Ground" p2] X.env)).any (·.1) = false := by rfl) :
    DE κ X (.Call (.Name "isinstance" p) [a, .Name "Ground" p2] [] pos) (f1 gIsG fa) := by
  obtain ⟨t, pa, q⟩ := ha
  have hT : PE X (.Name "Ground" p2) (tC (.ref C)) := pe_glob hgT hC rfl
  refine ⟨_, pe_callB call_isi hg hm boot_isinstance (pa_cons pa (pa_cons hT pa_nil he2) he) (by decide) (by decide) he hpl, fun P G H σ env Q R g ev hf hR => q P G H σ env _ _ g ev hf fun v P' G' H' d gr g' r hq => ?_⟩
  rcases hq with ⟨s, k, rfl, hq⟩ | ⟨⟨T, hT⟩, hty, hq⟩
  · obtain ⟨a, dx, kn, rfl, ho, h1, h2, h3⟩ := hG.at g' r
    refine ⟨.ref a, .ref C, .ref C, .ref C, true, rfl, .own C, .base (.ins h2 hF.cl hF.ha hF.hn hF.htk hF.hm), ?_, hR _ P' G' H' _ gr g' .bl hq⟩
    unfold PySem.W.kitOne
    rw [if_pos (by simp)]
  · refine ⟨v, .ref C, .type T, .ref C, false, rfl, .own C, rep_tyx g'.gh r hT, ?_, hR _ P' G' H' _ gr g' .bl hq⟩
    cases d <;> simp only [tyNm, Option.some.injEq, reduceCtorEq] at hT <;> subst hT
    · exact hF.iN
    · exact hF.iB
    · exact hF.iI
    · exact hF.iS
    · exact hF.iL
    · exact hF.iT
    · exact hF.iD
end
end DL

/-! ## DLG2 -/
/-! DLG2: grounds are made -/
namespace DL
open PySem PySem.Spec PyProof.Rows L2
/-- what may be a ground's: signs and a gap -/
structure OkG (s : List Nat) (g : Nat) : Prop where
  ok : OkS s
  low : ∀ c ∈ s, 97 ≤ c ∧ c ≤ 122
  two : 2 ≤ s.length
  inc : s.Pairwise (· < ·)
  gap : 2 ≤ g
/-- the promise of __init__ -/
def spInitG (κ : Kit) (C : Addr) : Sp := fun vs H Q _ => ∃ (P : Wd) (G H1 : Hp) (x dx : Addr) (s : List Nat) (g : Nat), vs = [.ref x, .str ⟨s.toArray⟩, .int (g : Nat)] ∧ H = upd (upd H1 dx (.own x)) x (.ins C dx []) ∧ Good κ P G H1 ∧ H1 x = none ∧ H1 dx = none ∧ dx ≠ x ∧ OkG s g ∧
  ∀ (P' : Wd) (G' H' : Hp) (kn : Addr), Grow P G H1 P' G' H' → Good κ P' G' H' → H' x = some (.ins C dx (gf s g kn)) → H' kn = some (.dK []) → G' x = none → G' kn = none → P'.iv x = none → P'.iv kn = none → H1 kn = none → kn ≠ x → P'.n = P.n → Q .non H'
section
variable {κ : Kit} {X : Cx} {C : Addr} {cv : CV} {a b c e : Expr} {es : List Expr} {fa fb f : FE} {far : FA} {pos p p2 : Pos} {ft1 ft2 : FT} {e1 e2 : Expr} {r1 r2 : List Stmt}
/-- the body of __init__ -/
theorem init_ps {p1 q1 q2 q3 q4 q5 q6 q7 a1 a2 a3 a4 b1 b2 b3 b4 bb c1 c2 c3 dd : Pos} {j1 j2 : _} (hF : GndF X.K C) (hK : κ.K = X.K) (h1 : DT κ X e1 ft1) (h2 : DT κ X e2 ft2) (hN : X.N = (["self", "signs", "gap"] : List Str))
    (hv0 : Vis X.env.scope "self") (hv1 : Vis X.env.scope "signs") (hv2 : Vis X.env.scope "gap")
    (f1 : ∀ s g, OkG s g → ∀ n, ft1 [none, some (.str s), some (.int (g : Nat))] n fun b m => b = false ∧ m = n)
    (f2 : ∀ s g, OkG s g → ∀ n, ft2 [none, some (.str s), some (.int (g : Nat))] n fun b m => b = false ∧ m = n)
    (hs1 : swapsWith (.Name "signs" q1) (some (.Attribute (.Name "self" q2) "row" a1)) b1.line X.env = pure false := by rfl)
    (hs2 : swapsWith (.Name "gap" q3) (some (.Attribute (.Name "self" q4) "least" a2)) b2.line X.env = pure false := by rfl)
    (hs3 : swapsWith (.BinOp (.BinOp (.Constant (.int 2) j1 c1) .Mult (.Name "gap" q5) c2) .Sub (.Constant (.int 2) j2 c3) bb) (some (.Attribute (.Name "self" q6) "span" a3)) b3.line X.env = pure false := by rfl)
    (hs4 : swapsWith (.Dict [] [] dd) (some (.Attribute (.Name "self" q7) "known" a4)) b4.line X.env = pure false := by rfl) :
    ∃ t, PSs X [.If e1 r1 [] p1, .If e2 r2 [] p2, .Assign [.Attribute (.Name "self" q2) "row" a1] (.Name "signs" q1) b1, .Assign [.Attribute (.Name "self" q4) "least" a2] (.Name "gap" q3) b2,
      .Assign [.Attribute (.Name "self" q6) "span" a3] (.BinOp (.BinOp (.Constant (.int 2) j1 c1) .Mult (.Name "gap" q5) c2) .Sub (.Constant (.int 2) j2 c3) bb) b3, .Assign [.Attribute (.Name "self" q7) "known" a4] (.Dict [] [] dd) b4] t ∧
      ∀ vs H Q E, spInitG κ C vs H Q E → t { nx := fun _ H' => Q .non H', rt := Q } (start X.N vs) H := by
  obtain ⟨t1, pt1, qt1⟩ := h1
  obtain ⟨t2, pt2, qt2⟩ := h2
  have v0 : ∀ q, PE X (.Name "self" q) (tVar 0) := fun q => pe_var (by rw [hN]; rfl) hv0
  have v1 : ∀ q, PE X (.Name "signs" q) (tVar 1) := fun q => pe_var (by rw [hN]; rfl) hv1
  have v2 : ∀ q, PE X (.Name "gap" q) (tVar 2) := fun q => pe_var (by rw [hN]; rfl) hv2
  refine ⟨_, pss_cons (ps_if pt1 pss_never pss_nil) (pss_cons (ps_if pt2 pss_never pss_nil) (pss_cons (ps_fld (v0 q2) (v1 q1) hs1) (pss_cons (ps_fld (v0 q4) (v2 q3) hs2)
    (pss_cons (ps_fld (v0 q6) (pe_op op_sub (pe_op op_mulA pe_int (v2 q5)) pe_int) hs3) (pss_one (ps_fld (v0 q7) pe_dnewK hs4)))))), fun vs H Q E hsp => ?_⟩
  obtain ⟨P, G, H1, x, dx, s, g, rfl, rfl, gd, hx, hdx, hne, ok, hQ⟩ := hsp
  rw [hN]
  have hst : start (["self", "signs", "gap"] : List Str) [.ref x, .str ⟨s.toArray⟩, .int (g : Nat)] = [some (V.ref x), some (.str ⟨s.toArray⟩), some (.int (g : Nat))] := rfl
  rw [hst]
  have hx1 : (upd H1 dx (.own x)) x = none := by rw [upd_ne hne.symm]; exact hx
  have gd1 : Good κ P G (upd H1 dx (.own x)) := gd.new hdx
  have gd2 : Good κ P G (upd (upd H1 dx (.own x)) x (.ins C dx [])) := gd1.new hx1
  have gr2 : Grow P G H1 P G (upd (upd H1 dx (.own x)) x (.ins C dx [])) := (Grow.new hdx).trans (Grow.new hx1)
  have ev : EnvR κ G P.iv [some (V.ref x), some (.str ⟨s.toArray⟩), some (.int (g : Nat))] [none, some (.str s), some (.int (g : Nat))] := by
    refine ⟨rfl, fun i d h => ?_⟩
    match i, h with
    | 0, h => simp at h
    | 1, h => simp at h; subst h; exact ⟨_, rfl, .str ok.ok⟩
    | 2, h => simp at h; subst h; exact ⟨_, rfl, .int⟩
    | k + 3, h => simp at h
  refine qt1 P G _ _ _ _ _ gd2 ev (f1 s g ok P.n) fun b P3 G3 H3 gr3 gd3 hb => ?_
  obtain ⟨hb, hn3⟩ := hb
  subst hb
  refine qt2 P3 G3 H3 _ _ _ _ gd3 (ev.grow gr3) (f2 s g ok P3.n) fun b P4 G4 H4 gr4 gd4 hb => ?_
  obtain ⟨hb, hn4⟩ := hb
  subst hb
  have gr := (gr2.trans gr3).trans gr4
  have hix : P.iv x = none := gd.inone hx
  have h3x : H3 x = some (.ins C dx []) := gr3.h x _ upd_same hix
  have hi3 : P3.iv x = none := by rw [(gr3.fresh x _ upd_same).1]; exact hix
  have h4x : H4 x = some (.ins C dx []) := gr4.h x _ h3x hi3
  have hi4 : P4.iv x = none := by rw [(gr4.fresh x _ h3x).1]; exact hi3
  have hg4 : G4 x = none := by
    rw [(gr4.fresh x _ h3x).2.2, (gr3.fresh x _ upd_same).2.2]
    exact gd.gnone hx
  refine ⟨_, rfl, _, rfl, x, C, dx, [], rfl, h4x, hF.cl, hF.nR, by decide, ?_⟩
  refine ⟨_, rfl, _, rfl, x, C, dx, _, rfl, upd_same, hF.cl, hF.nL, by show 1 < 1000; decide, ?_⟩
  refine ⟨_, rfl, _, _, rfl, rfl, .inl (.inl (by decide)), _, _, rfl, rfl, _, rfl, x, C, dx, _, rfl, upd_same, hF.cl, hF.nS, ?_, ?_⟩
  · show (putF "least" _ (putF "row" _ [])).length < 1000
    have : ∀ (f : Str) (v : V) (fs : List (Str × V)), (putF f v fs).length ≤ fs.length + 1 := fun f v fs => by
      induction fs with
      | nil => simp [putF]
      | cons q fs ih =>
        obtain ⟨k, w⟩ := q
        unfold putF
        split
        · simp
        · simp; exact ih
    have a1 := this "least" (V.int (g : Nat)) (putF "row" (.str ⟨s.toArray⟩) [])
    have a2 := this "row" (V.str ⟨s.toArray⟩) []
    simp at a2
    omega
  intro kn hkn
  have hkx : kn ≠ x := fun e => by subst e; rw [upd_same] at hkn; cases hkn
  have hk4 : H4 kn = none := by rw [upd_ne hkx, upd_ne hkx, upd_ne hkx] at hkn; exact hkn
  have hlen : ∀ (f : Str) (v : V) (fs : List (Str × V)), (putF f v fs).length ≤ fs.length + 1 := fun f v fs => by
    induction fs with
    | nil => simp [putF]
    | cons q fs ih =>
      obtain ⟨k, w⟩ := q
      unfold putF
      split
      · simp
      · simp; exact ih
  have hH1 : H1 kn = none := gr.back hk4
  refine ⟨_, rfl, x, C, dx, _, rfl, Eq.trans (upd_ne hkx.symm) upd_same, hF.cl, hF.nK, ?_, ?_⟩
  · have a1 := hlen "span" (V.int (2 * (g : Int) - 2)) (putF "least" (V.int (g : Nat)) (putF "row" (.str ⟨s.toArray⟩) []))
    have a2 := hlen "least" (V.int (g : Nat)) (putF "row" (.str ⟨s.toArray⟩) [])
    have a3 := hlen "row" (V.str ⟨s.toArray⟩) []
    simp at a3
    exact Nat.lt_of_le_of_lt a1 (by omega)
  · have g5 := ((gd4.put (o := .ins C dx (putF "row" (.str ⟨s.toArray⟩) [])) hg4 hi4).put (o := .ins C dx (putF "least" (.int (g : Nat)) (putF "row" (.str ⟨s.toArray⟩) []))) hg4 hi4).put (o := .ins C dx (putF "span" (.int (2 * (g : Int) - 2)) (putF "least" (.int (g : Nat)) (putF "row" (.str ⟨s.toArray⟩) [])))) hg4 hi4
    have g6 := (g5.new (o := .dK []) hkn).put (o := .ins C dx (gf s g kn)) hg4 hi4
    have gw := ((((gr.put (o := .ins C dx (putF "row" (.str ⟨s.toArray⟩) [])) hx).put (o := .ins C dx (putF "least" (.int (g : Nat)) (putF "row" (.str ⟨s.toArray⟩) []))) hx).put (o := .ins C dx (putF "span" (.int (2 * (g : Int) - 2)) (putF "least" (.int (g : Nat)) (putF "row" (.str ⟨s.toArray⟩) [])))) hx).put (o := .dK []) hH1).put (o := .ins C dx (gf s g kn)) hx
    refine hQ P4 G4 _ kn gw g6 upd_same (by rw [upd_ne hkx]; exact upd_same) hg4 (gd4.gnone hk4) hi4 (gd4.inone hk4) hH1 hkx (hn4.trans hn3)
/-! ### Ground(..) -/
def gMkG (ds : List D) (n : Nat) (Q : D → Nat → Prop) : Prop := ∃ (s : List Nat) (g : Nat), ds = [.str s, .int (g : Nat)] ∧ OkG s g ∧ Q (gnd s g) n
theorem gMkG_of {s : List Nat} {g n : Nat} {Q : D → Nat → Prop} (h : OkG s g) (hq : Q (gnd s g) n) : gMkG [.str s, .int (g : Nat)] n Q := ⟨s, g, rfl, h, hq⟩
theorem e_mkG {k k' : Nat} {f : Addr} {fd : FuncData} (hG : HasGnd κ C cv) (M : Mk X.K C f) (F : FnOk X.prog X.w X.K X.mg X.base CX0 k f fd ["self", "signs", "gap"] (spInitG κ C)) (hb : Binds X.K fd ["self", "signs", "gap"] []) (hC : X.mg "Ground" = some (.ref C)) (hr : Room k' X.A) (ha : DA κ X (e :: es) far)
    (hk : k + 1 ≤ k' := by first | decide | exact Nat.le_refl _ | omega) (hg : Gl X "Ground" := by rfl) (he : starEach (e :: es) X.env = (false, eval e X.env) :: starEach es X.env := by rfl) (hpl : (backTo pos (starEach es X.env)).any (·.1) = false := by rfl) :
    DE κ X (.Call (.Name "Ground" p) (e :: es) [] pos) (fCl gMkG far) := by
  obtain ⟨t, pt, q⟩ := ha
  refine ⟨_, pe_make (E := E0) M F (hr.mono hk) hg hC hb .nil pass0 pt (by decide) he hpl, fun P G H σ env Q R gd ev hf hR => q P G H σ env _ _ gd ev hf fun vs P1 G1 H1 ds gr gd1 r hq => ?_⟩
  obtain ⟨s, g, rfl, ok, hq⟩ := hq
  intro x dx hx hdx hne
  cases r with
  | cons r r' => cases r' with
    | cons r1 r' =>
      cases r'
      cases r with
      | str hs =>
      cases r1
      refine ⟨P1, G1, H1, x, dx, s, g, rfl, rfl, gd1, hx, hdx, hne, ok, fun P' G' H' kn gr' gd' hx' hkn' gx' gk' ix' ik' hk1 hkx hn' => ⟨rfl, ?_⟩⟩
      have iv' : ∀ b t, P'.iv b = some t → (fun c => if c = x then some (1, [D.str s, .int (g : Nat)]) else if c = kn then some (2, [D.str s, .int (g : Nat)]) else P'.iv c) b = some t := fun b t e => by
        have h1 : b ≠ x := fun z => by subst z; rw [ix'] at e; cases e
        have h2 : b ≠ kn := fun z => by subst z; rw [ik'] at e; cases e
        simp only [if_neg h1, if_neg h2]; exact e
      refine hR (.ref x) { P' with iv := fun c => if c = x then some (1, [D.str s, .int (g : Nat)]) else if c = kn then some (2, [D.str s, .int (g : Nat)]) else P'.iv c } G' H' (gnd s g) (gr.trans ⟨gr'.fz, fun b t e => iv' b t (gr'.iv b t e), gr'.n, gr'.g, gr'.h, gr'.dom, fun b o e => ?_⟩) ⟨gd'.pg, gd'.gh, fun b t e => ?_⟩ (.box (by simp)) (by show Q (gnd s g) P'.n; rw [hn']; exact hq)
      · obtain ⟨f1, f2, f3⟩ := gr'.fresh b o e
        have h1 : b ≠ x := fun z => by subst z; rw [hx] at e; cases e
        have h2 : b ≠ kn := fun z => by subst z; rw [hk1] at e; cases e
        exact ⟨by simp only [if_neg h1, if_neg h2]; exact f1, f2, f3⟩
      · by_cases h1 : b = x
        · subst h1
          simp only [if_true, Option.some.injEq] at e
          subst e
          refine ⟨gx', _, hx', (hG.j1 s g _ _).mpr ⟨ok.ok, dx, kn, rfl, ?_⟩⟩
          simp only [if_neg hkx, if_true]
        · by_cases h2 : b = kn
          · subst h2
            simp only [if_neg h1, if_true, Option.some.injEq] at e
            subst e
            exact ⟨gk', _, hkn', (hG.j2 s g _ _).mpr ⟨[], rfl, List.nodup_nil, fun k v e => by simp [valV] at e⟩⟩
          · simp only [if_neg h1, if_neg h2] at e
            obtain ⟨w1, o, w2, w3⟩ := gd'.gi b t e
            exact ⟨w1, o, w2, κ.mono _ _ P' _ o (fun _ _ h => h) iv' (Nat.le_refl _) w3⟩
end
end DL

/-! ## DLG3 -/
/-! DLG3: what is reckoned once of a ground -/
namespace DL
open PySem PySem.Spec PyProof.Rows L2
theorem sub_len {α : Type} : ∀ {xs ys : List α}, xs.Nodup → (∀ x ∈ xs, x ∈ ys) → xs.length ≤ ys.length
  | [], _, _, _ => Nat.zero_le _
  | x :: xs, ys, hn, hs => by
    obtain ⟨a, b, rfl⟩ := List.append_of_mem (hs x (List.mem_cons_self ..))
    rw [List.nodup_cons] at hn
    have ih := sub_len (xs := xs) (ys := a ++ b) hn.2 fun y hy => by
      have h1 := hs y (List.mem_cons_of_mem _ hy)
      rcases List.mem_append.mp h1 with h1 | h1
      · exact List.mem_append_left _ h1
      · rcases List.mem_cons.mp h1 with rfl | h1
        · exact absurd hy hn.1
        · exact List.mem_append_right _ h1
    simp only [List.length_append, List.length_cons] at ih ⊢
    omega
theorem valV_in {κ' : Type} [DecidableEq κ'] {kvs : List (κ' × V)} {k : κ'} (h : k ∈ kvs.map (·.1)) : ∃ v, valV kvs k = some v := by
  cases e : valV kvs k with
  | some v => exact ⟨v, rfl⟩
  | none => exact absurd h (valV_not e)
theorem putK_nodup {kvs : List (Key × V)} {k : Key} {v : V} (h : (kvs.map (·.1)).Nodup) : ((putK kvs k v).map (·.1)).Nodup := by
  cases e : valV kvs k with
  | none =>
    rw [putK_new v e, List.map_append, List.nodup_append]
    refine ⟨h, by simp, fun x hx y hy exy => ?_⟩
    simp at hy
    subst hy exy
    exact valV_not e hx
  | some w =>
    unfold putK
    have : (kvs.any fun kv => decide (kv.1 = k)) = true := by rw [valV_any, e]; rfl
    rw [if_pos this, List.map_map]
    have e2 : kvs.map ((fun x : Key × V => x.1) ∘ fun kv => if kv.1 = k then (kv.1, v) else kv) = kvs.map (·.1) := List.map_congr_left fun p _ => by simp only [Function.comp]; split <;> rfl
    rw [e2]; exact h
section
variable {κ : Kit} {X : Cx} {C : Addr} {cv : CV} {a b c e : Expr} {es : List Expr} {fa fb f : FE} {far fo : FA} {pos p p2 : Pos} {st : Stmt} {s1 : FS}
theorem KnJ.len (hG : HasGnd κ C cv) {s : List Nat} {g : Nat} {P : Wd} {kvs : List (Key × V)} (hn : (kvs.map (·.1)).Nodup) (h : ∀ k v, valV kvs k = some v → ∃ d, cv s g k = some d ∧ Rep (kitN κ.K) P.fz P.iv v d) : kvs.length ≤ 3 := by
  have := sub_len (ys := ckeys) hn fun k hk => by
    obtain ⟨v, hv⟩ := valV_in hk
    obtain ⟨d, hd, _⟩ := h k v hv
    exact hG.ck s g k d hd
  rw [List.length_map] at this
  exact Nat.le_trans this (by decide)
/-- noted under a name, told as a new list -/
@[simp] def sOwn (i : Nat) (key : Str) (cv : CV) (s1 : FS) (fo : FA) : FS := fun D env n => ∃ (s : List Nat) (g : Nat) (W : List (List Nat)), env[i]? = some (some (.val (gnd s g))) ∧ cv s g (.inr key) = some (.lst (W.map DL.D.str)) ∧ D.rt (.own (W.map DL.D.str)) n ∧
  s1 { nx := fun e m => e[i]? = some (some (.val (gnd s g))) ∧ fo (hide e) m fun xs k => xs = W.map DL.D.str ∧ D.rt (.own (W.map DL.D.str)) k, rt := fun _ _ => False } env n
theorem ds_own (i : Nat) {key gn : Str} {pk pa pc pg pg2 pa2 pk2 ps pas pif pl pg3 pa3 pk3 ps3 pcall pr : Pos} {jk jk2 jk3 : _} {k' : Nat} (hG : HasGnd κ C cv) (hF : GndF X.K C) (hK : κ.K = X.K) (hr : Room k' X.A) (hc : X.calm = true) (hm : X.mg "list" = none) (hN : X.N[i]? = some gn) (hv : Vis X.env.scope gn)
    (h1 : D1 κ X st s1) (he : DO κ X e fo) (hd : (gn == ("__debug__" : Str)) = false := by decide) (hcd : (gn == ("__classdict__" : Str)) = false := by decide)
    (hs : swapsWith e (some (.Subscript (.Attribute (.Name gn pg2) "known" pa2) (.Constant (.str key) jk2 pk2) ps)) pas.line X.env = pure false := by rfl) (hgl : Gl X "list" := by rfl)
    (hsa : starEach [.Subscript (.Attribute (.Name gn pg3) "known" pa3) (.Constant (.str key) jk3 pk3) ps3] X.env = (false, eval (.Subscript (.Attribute (.Name gn pg3) "known" pa3) (.Constant (.str key) jk3 pk3) ps3) X.env) :: starEach [] X.env := by rfl)
    (hb1 : attributeBase (.Name gn pg) "known" X.env (eval (.Name gn pg) X.env) = eval (.Name gn pg) X.env := by rfl) (hb2 : attributeBase (.Name gn pg2) "known" X.env (eval (.Name gn pg2) X.env) = eval (.Name gn pg2) X.env := by rfl) (hb3 : attributeBase (.Name gn pg3) "known" X.env (eval (.Name gn pg3) X.env) = eval (.Name gn pg3) X.env := by rfl)
    (hpl : (backTo pcall (starEach [] X.env)).any (·.1) = false := by rfl) :
    DS κ X [.If (.Compare (.Constant (.str key) jk pk) [.NotIn] [.Attribute (.Name gn pg) "known" pa] pc) [st, .Assign [.Subscript (.Attribute (.Name gn pg2) "known" pa2) (.Constant (.str key) jk2 pk2) ps] e pas] [] pif,
      .Return (some (.Call (.Name "list" pl) [.Subscript (.Attribute (.Name gn pg3) "known" pa3) (.Constant (.str key) jk3 pk3) ps3] [] pcall)) pr] (sOwn i key cv s1 fo) := by
  have hu := hu_of hr
  obtain ⟨ts, pts, qts⟩ := h1
  obtain ⟨te, pte, qte⟩ := he
  have pv : ∀ q, PE X (.Name gn q) (tVar i) := fun q => pe_var hN hv hd hcd
  refine ⟨_, pss_cons (ps_if (pt_cmp (pc_dnotin hu pe_str (pe_fld (pv pg) hb1))) (pss_cons pts (pss_one (ps_dput hu (pe_fld (pv pg2) hb2) pe_str pte hs))) pss_nil)
    (pss_one (ps_ret (pe_callTy call_list_of hgl hm (by decide +kernel) (pa_cons (pe_dget hu (pe_fld (pv pg3) hb3) pe_str (fun _ _ => rfl)) pa_nil hsa) (by decide) (by decide) hsa hpl))), ?_⟩
  intro P0 G0 H0 P G H σ env D E gr gd ev hf ok
  obtain ⟨s, g, W, hi, hcv, hrt, hbody⟩ := hf
  -- the return, where it is noted
  have ret : ∀ (P2 : Wd) (G2 H2 : Hp) (σ2 : L2.St) (a kn dx : Addr) (kvs : List (Key × V)) (v : V), Grow P0 G0 H0 P2 G2 H2 → Good κ P2 G2 H2 → σ2[i]? = some (some (.ref a)) → H2 a = some (.ins C dx (gf s g kn)) → H2 kn = some (.dK kvs) → valV kvs (.inr key) = some v → Rep (kitN κ.K) P2.fz P2.iv v (.lst (W.map DL.D.str)) → D.rt (.own (W.map DL.D.str)) P2.n →
      tRet (tCB (fun xs H Q => ∃ p ys, xs = [V.ref p] ∧ (SqL X.K H p ys ∨ SqT X.K H p ys) ∧ ∀ l, H l = none → Q (.ref l) (upd H l (.lst ys))) (tCons (tDGet (tFld X.K (tVar i) "known") (tC (.str key))) tNil)) E σ2 H2 := by
    intro P2 G2 H2 σ2 a kn dx kvs v gr2 gd2 hσ ha hk hvk rv hrt2
    refine ⟨_, hσ, a, C, dx, _, _, rfl, ha, hF.cl, hF.nK, gf_known _ _ _, kn, v, rfl, .inl ⟨kvs, .inr key, .inl hk, rfl, hvk.symm⟩, ?_⟩
    cases rv with
    | @lst b vs _ hb hz r =>
      have hG2 : G2 b = some (.lst vs) := gd2.pg _ _ hb
      refine ⟨b, vs, rfl, .inl (SqL.of (gd2.gx hG2 rfl)), fun l hl => ?_⟩
      refine ok.rt (.ref l) (.own (W.map DL.D.str)) P2 G2 _ (gr2.trans (Grow.new hl)) (gd2.new hl) ?_ hrt2
      exact ⟨l, rfl, vs, upd_same, hz, gr2.back hl, gd2.gnone hl, gd2.inone hl, Reps.mono (fun a o h => gd2.pg a o h) (fun _ _ h => h) (Reps.ofN r)⟩
  obtain ⟨v, hσ, r⟩ := ev.get i _ hi
  obtain ⟨a, dx, kn, rfl, hos, hia, hHa, hikn⟩ := hG.at gd r
  obtain ⟨_, o, hHk, hJ⟩ := gd.gi kn _ hikn
  obtain ⟨kvs, rfl, hnd, hkv⟩ := (hG.j2 s g P o).mp hJ
  refine ⟨_, hσ, a, C, dx, _, _, rfl, hHa, hF.cl, hF.nK, gf_known _ _ _, kn, valV kvs (.inr key), rfl, .inl ⟨kvs, .inr key, .inl hHk, rfl, rfl⟩, _, rfl, ?_⟩
  cases ek : valV kvs (.inr key) with
  | some v =>
    obtain ⟨d, hd1, hd2⟩ := hkv _ _ ek
    rw [hcv] at hd1
    cases hd1
    exact ret P G H σ a kn dx kvs v gr gd hσ hHa hHk ek hd2 hrt
  | none =>
    refine qts P0 G0 H0 P G H σ env _ _ gr gd ev hbody ⟨?_, fun _ _ _ _ _ _ _ _ h => h.elim, fun _ _ _ _ _ _ _ _ h => h.elim, fun _ _ _ _ _ _ _ _ h => h.elim⟩
    intro P3 G3 H3 σ3 env3 gr3 gd3 ev3 hq3
    obtain ⟨hi3, hq3⟩ := hq3
    refine at_hideO qte gd3 ev3 (fun b hb => gr3.back hb) hq3 fun b P4 G4 H4 xs gr4 gd4 ev4 hb own hq4 => ?_
    obtain ⟨rfl, hrt4⟩ := hq4
    obtain ⟨vs, w1, w2, w3, w4, w5, w6⟩ := own
    obtain ⟨v4, hσ4, r4⟩ := ev4.get i _ hi3
    obtain ⟨a4, dx4, kn4, rfl, _, hia4, hHa4, hikn4⟩ := hG.at gd4 r4
    obtain ⟨hGk4, o4, hHk4, hJ4⟩ := gd4.gi kn4 _ hikn4
    obtain ⟨kvs4, rfl, hnd4, hkv4⟩ := (hG.j2 s g P4 o4).mp hJ4
    have hlen := KnJ.len hG hnd4 hkv4
    have hbk : b ≠ kn4 := fun z => by subst z; rw [w5] at hikn4; cases hikn4
    have hba : b ≠ a4 := fun z => by subst z; rw [w5] at hia4; cases hia4
    have hak : a4 ≠ kn4 := fun z => by subst z; rw [hia4] at hikn4; cases hikn4
    have hsz : sizeLine = 16777216 := PySem.sizeLine_eq
    refine ⟨_, hσ4, a4, C, dx4, _, _, rfl, hHa4, hF.cl, hF.nK, gf_known _ _ _, kn4, _, rfl, DPut.k (k := .inr key) hHk4 (by omega), ?_⟩
    have hfb : P4.fz b = none := gd4.fnone w4
    obtain ⟨rfl, hoks⟩ := Reps.of_strs w6
    have rb : Rep (kitN κ.K) (upd P4.fz b (.lst ((W.map fun s => (⟨s.toArray⟩ : Str)).map V.str))) P4.iv (.ref b) (.lst (W.map DL.D.str)) := .lst upd_same w2 (by rw [List.map_map]; exact reps_strs hoks)
    have hfz : ∀ c o, P4.fz c = some o → (upd P4.fz b (.lst ((W.map fun s => (⟨s.toArray⟩ : Str)).map V.str))) c = some o := fun c o h => by
      rw [upd_ne (fun z => by subst z; rw [hfb] at h; cases h)]; exact h
    have kn5 : KnJ κ.K cv s g { P4 with fz := upd P4.fz b (.lst ((W.map fun s => (⟨s.toArray⟩ : Str)).map V.str)) } (.dK (putK kvs4 (.inr key) (.ref b))) := by
      refine ⟨_, rfl, putK_nodup hnd4, fun k v e => ?_⟩
      rw [valV_put] at e
      by_cases hk : k = .inr key
      · rw [if_pos hk] at e
        cases e
        subst hk
        exact ⟨_, hcv, rb⟩
      · rw [if_neg hk] at e
        obtain ⟨d, q1, q2⟩ := hkv4 k v e
        exact ⟨d, q1, q2.mono hfz fun _ _ h => h⟩
    refine ret { P4 with fz := upd P4.fz b (.lst ((W.map fun s => (⟨s.toArray⟩ : Str)).map V.str)) } (upd G4 b (.lst ((W.map fun s => (⟨s.toArray⟩ : Str)).map V.str))) _ σ3 a4 kn4 dx4 _ (.ref b) ?_ ?_ hσ4 (by rw [upd_ne hak]; exact hHa4) upd_same (by rw [valV_put, if_pos rfl]) rb hrt4
    · have gr34 := gr3.trans gr4
      refine ⟨fun c o h => hfz c o (gr34.fz c o h), gr34.iv, gr34.n, fun c o h => ?_, fun c o h n => ?_, fun c o h => ?_, fun c o h => ?_⟩
      · have := gr34.g c o h
        rw [upd_ne (fun z => by subst z; rw [w4] at this; cases this)]; exact this
      · have hc : c ≠ kn4 := fun z => by
          subst z
          have := (gr34.fresh _ _ h).1
          rw [hikn4, n] at this; cases this
        rw [upd_ne hc]; exact gr34.h c o h n
      · by_cases hc : c = kn4
        · subst hc; exact ⟨_, upd_same⟩
        · rw [upd_ne hc]; exact gr34.dom c o h
      · obtain ⟨f1, f2, f3⟩ := gr34.fresh c o h
        have hc : c ≠ b := fun z => by subst z; rw [w3] at h; cases h
        exact ⟨f1, by rw [← f2]; exact upd_ne hc, by rw [upd_ne hc]; exact f3⟩
    · refine ⟨fun c o h => ?_, fun c o h => ?_, fun c t h => ?_⟩
      · by_cases hc : c = b
        · subst hc
          have h : (upd P4.fz c (.lst ((W.map fun s => (⟨s.toArray⟩ : Str)).map V.str))) c = some o := h
          rw [upd_same] at h ⊢; exact h
        · have h : (upd P4.fz b (.lst ((W.map fun s => (⟨s.toArray⟩ : Str)).map V.str))) c = some o := h
          rw [upd_ne hc] at h ⊢
          exact gd4.pg c o h
      · by_cases hc : c = b
        · subst hc
          rw [upd_same] at h
          cases h
          exact .inl (by rw [upd_ne hbk]; exact w1)
        · rw [upd_ne hc] at h
          have hck : c ≠ kn4 := fun z => by subst z; rw [hGk4] at h; cases h
          exact (gd4.gh c o h).of (upd_ne hck)
      · have h : P4.iv c = some t := h
        obtain ⟨q1, o, q2, q3⟩ := gd4.gi c t h
        have hcb : c ≠ b := fun z => by subst z; rw [w5] at h; cases h
        refine ⟨by rw [upd_ne hcb]; exact q1, ?_⟩
        by_cases hck : c = kn4
        · subst hck
          rw [hikn4] at h
          cases h
          exact ⟨_, upd_same, (hG.j2 s g _ _).mpr kn5⟩
        · exact ⟨o, by rw [upd_ne hck]; exact q2, κ.mono _ _ P4 _ o hfz (fun _ _ h => h) (Nat.le_refl _) q3⟩
end
/-! ### the law -/
def spLaw (K : PySem.W.Frag) : Sp := fun vs H Q _ => ∃ (a : Addr) (ns : List Int), vs = [.ref a] ∧ ns.length ≤ 63 ∧ SqL K H a (ns.map V.int) ∧ ∀ H', Q (.bl true) H'
theorem fn_law {κ : Kit} {P : Program} {w : World} {K : PySem.W.Frag} {mg : Str → Option Value} {base : Heap} {k : Nat} {f : Addr} {fd : FuncData} {ps : List Str} (h : FnOk P w K mg base CX0 k f fd ps (spD κ 1 F_law)) (hK : κ.K = K) : FnOk P w K mg base CX0 k f fd ps (spLaw K) := by
  subst hK
  refine h.imp fun vs H Q E hs => ?_
  obtain ⟨a, ns, rfl, hl, hS, hQ⟩ := hs
  obtain ⟨h1, P0, G, ds, QD, g, r, hf, hv⟩ := law_sp (κ := κ) hl hS
  exact ⟨h1, P0, G, ds, QD, g, r, hf, fun v s P' G' H' gr gd rs hq => by
    have := hv v s P' G' H' gr gd rs hq
    rw [this]; exact hQ _⟩
section
end
end DL

/-! ## GrRd -/
/-! GrRd: readings of the defs of grounds -/
namespace DL
open PySem L2
/-- is_rising(things), slots 0 things 1 at -/
def cm_is_rising : FS := (sRet (fCl gAll (aCons (fFrz (oComp (iRange2 (aCons (fC (.int 1)) (aCons (fCl gLen (aCons (fVar 0) aNil)) aNil))) (gN 1) tYesD (f2 gLt (f2 gIx (fVar 0) (f2 gSub (fVar 1) (fC (.int 1)))) (f2 gIx (fVar 0) (fVar 1))) [1])) aNil)))
/-- repeats(word, gap), slots 0 word 1 gap 2 period -/
def cm_repeats (F_has : FC) : FS := (sRet (fCl gAny (aCons (fFrz (oComp (iRange2 (aCons (fC (.int 1)) (aCons (fCl gMin (aCons (fVar 1) (aCons (fCl gLen (aCons (fVar 0) aNil)) aNil))) aNil))) (gN 2) tYesD (fCall 2 F_has [] (aCons (fVar 0) (aCons (fVar 2) aNil))) [2])) aNil)))
/-- check_ground(value), slots 0 value -/
def cm_check_ground : FS := (sIf (tNotD (tVal (f1 gIsG (fVar 0)))) sNever sNext)
/-- is_text_of(ground, value), slots 0 ground 1 value 2 sign -/
def cm_is_text_of : FS := (sRet (fAnd (fIsi .str (fVar 1)) (fCl gAll (aCons (fFrz (oComp (iSeqN 1) (gN 2) tYesD (f2 gIn (fVar 2) (f1 gRow (fVar 0))) [2])) aNil))))
/-- is_window_of(ground, value), slots 0 ground 1 value -/
def cm_is_window_of (F_is_text_of : FC) : FS := (sRet (fAnd (fCall 2 F_is_text_of [] (aCons (fVar 0) (aCons (fVar 1) aNil))) (f2 gEq (fCl gLen (aCons (fVar 1) aNil)) (f1 gSpan (fVar 0)))))
/-- check_window(ground, value), slots 0 ground 1 value -/
def cm_check_window (F_is_window_of : FC) : FS := (sIf (tNotD (tTru (fCall 2 F_is_window_of [] (aCons (fVar 0) (aCons (fVar 1) aNil))))) sNever sNext)
/-- words_of(signs, size), slots 0 signs 1 size 2 found 3 spin 4 word 5 sign -/
def cm_words_of : FS := (sSeq (sAsg 2 (fFrz (oLst (aCons (fC (.str [])) aNil)))) (sSeq (sFor (iRange1 (aCons (fVar 1) aNil)) (nN 3) (sAsg 2 (fFrz (oComp2 (iSeq (fVar 2)) (gN 4) tYesD (iSeq (fVar 0)) (gN 5) tYesD (f2 gAdd3 (fVar 4) (fVar 5)) [4, 5] [5])))) (sRet (fVar 2))))
/-- own_list(ground), slots 0 ground 1 some 2 window -/
def cm_own_list (cv : CV) (F_repeats : FC) (F_words_of : FC) : FS := (sOwn 0 "own" cv (sAsg 1 (fCall 2 F_words_of [] (aCons (f1 gRow (fVar 0)) (aCons (f1 gSpan (fVar 0)) aNil)))) (oComp (iSeqN 1) (gN 2) (tNotD (tTru (fCall 2 F_repeats [] (aCons (fVar 2) (aCons (f1 gLeast (fVar 0)) aNil))))) (fVar 2) [2]))
/-- distances_in(one, other, gap), slots 0 one 1 other 2 gap 3 space -/
def cm_distances_in : FS := (sRetO (oComp (iRange2 (aCons (fC (.int 1)) (aCons (fVar 2) aNil))) (gN 3) (tVal (f2 gEq (fSl (fVar 0) (oSo (fVar 3)) oNo) (fSl (fVar 1) oNo (oSo (f2 gSub (fCl gLen (aCons (fVar 0) aNil)) (fVar 3)))))) (fVar 3) [3]))
/-- is_near(one, other, gap), slots 0 one 1 other 2 gap -/
def cm_is_near (F_distances_in : FC) : FS := (sRet (fOr (f2 gNe (fCall 3 F_distances_in [] (aCons (fVar 0) (aCons (fVar 1) (aCons (fVar 2) aNil)))) (fFrz (oLst aNil))) (f2 gNe (fCall 3 F_distances_in [] (aCons (fVar 1) (aCons (fVar 0) (aCons (fVar 2) aNil)))) (fFrz (oLst aNil)))))
/-- check_two_windows(ground, one, other), slots 0 ground 1 one 2 other -/
def cm_check_two_windows (F_check_ground : FC) (F_check_window : FC) : FS := (sSeq (sDrop (fCall 1 F_check_ground [] (aCons (fVar 0) aNil))) (sSeq (sDrop (fCall 2 F_check_window [] (aCons (fVar 0) (aCons (fVar 1) aNil)))) (sDrop (fCall 2 F_check_window [] (aCons (fVar 0) (aCons (fVar 2) aNil))))))
/-- _law_repeats(word, gap), slots 0 word 1 gap 2 period -/
def cm__law_repeats : FS := (sRet (fCl gAny (aCons (fFrz (oComp (iRange2 (aCons (fC (.int 1)) (aCons (fCl gMin (aCons (fVar 1) (aCons (fCl gLen (aCons (fVar 0) aNil)) aNil))) aNil))) (gN 2) tYesD (f2 gEq (fSl (fVar 0) (oSo (fVar 2)) oNo) (fSl (fVar 0) oNo (oSo (f2 gSub (fCl gLen (aCons (fVar 0) aNil)) (fVar 2))))) [2])) aNil)))
/-- _law_words_of(signs, size), slots 0 signs 1 size 2 found 3 spin 4 longer 5 word 6 sign -/
def cm__law_words_of : FS := (sSeq (sAsg 2 (fFrz (oLst (aCons (fC (.str [])) aNil)))) (sSeq (sFor (iRange1 (aCons (fVar 1) aNil)) (nN 3) (sSeq (sAsg 4 (fFrz (oLst aNil))) (sSeq (sFor (iSeqN 2) (nN 5) (sAsg 4 (f2 gAdd3 (fVar 4) (fFrz (oComp (iSeq (fFrz (oCl oList (aCons (fVar 0) aNil)))) (gN 6) tYesD (f2 gAdd3 (fVar 5) (fVar 6)) [6]))))) (sAsg 2 (fVar 4))))) (sRet (fVar 2))))
/-- _law_own(ground), slots 0 ground 1 word -/
def cm__law_own (F__law_repeats : FC) (F__law_words_of : FC) : FS := (sRetO (oComp (iSeq (fCall 2 F__law_words_of [] (aCons (f2 gIx (fVar 0) (fC (.int 0))) (aCons (f2 gSub (f2 gMul (fC (.int 2)) (f2 gIx (fVar 0) (fC (.int 1)))) (fC (.int 2))) aNil)))) (gN 1) (tNotD (tTru (fCall 2 F__law_repeats [] (aCons (fVar 1) (aCons (f2 gIx (fVar 0) (fC (.int 1))) aNil))))) (fVar 1) [1]))
/-- _law_behind_at(one, other, gap), slots 0 one 1 other 2 gap 3 space -/
def cm__law_behind_at : FS := (sRetO (oComp (iRange2 (aCons (fC (.int 1)) (aCons (fVar 2) aNil))) (gN 3) (tVal (f2 gEq (fSl (fVar 0) (oSo (fVar 3)) oNo) (fSl (fVar 1) oNo (oSo (f2 gSub (fCl gLen (aCons (fVar 0) aNil)) (fVar 3)))))) (fVar 3) [3]))
/-- _law_near(one, other, gap), slots 0 one 1 other 2 gap -/
def cm__law_near (F__law_behind_at : FC) : FS := (sRet (fOr (f2 gNe (fCall 3 F__law_behind_at [] (aCons (fVar 0) (aCons (fVar 1) (aCons (fVar 2) aNil)))) (fFrz (oLst aNil))) (f2 gNe (fCall 3 F__law_behind_at [] (aCons (fVar 1) (aCons (fVar 0) (aCons (fVar 2) aNil)))) (fFrz (oLst aNil)))))
/-- _law_made(ground), slots 0 ground -/
def cm__law_made : FS := (sRet (fCl gMkG (aCons (f2 gIx (fVar 0) (fC (.int 0))) (aCons (f2 gIx (fVar 0) (fC (.int 1))) aNil))))
def cm_init1 (F_is_count : FC) (F_is_rising : FC) (F_is_text : FC) : FT := (tOrD (tNotD (tTru (fCall 1 F_is_text [] (aCons (fVar 1) aNil)))) (tOrD (tVal (f2 gLt (fCl gLen (aCons (fVar 1) aNil)) (fC (.int 2)))) (tNotD (tTru (fCall 1 F_is_rising [] (aCons (fVar 1) aNil))))))
def cm_init2 (F_is_count : FC) (F_is_rising : FC) (F_is_text : FC) : FT := (tOrD (tNotD (tTru (fCall 2 F_is_count [.non] (aCons (fVar 2) aNil)))) (tVal (f2 gLt (fVar 2) (fC (.int 2)))))
end DL

/-! ## GrA -/
/-! GrA: grounds, their windows: contracts -/
namespace DL
open PySem L2
theorem mod0 (a b : Nat) : ((a : Int) % (b : Int) = 0) = (a % b = 0) := by
  rw [eq_iff_iff]; omega
theorem cutL_mem {α : Type} {xs : List α} {lo hi : Option Int} {x : α} (h : x ∈ cutL xs lo hi) : x ∈ xs := List.mem_of_mem_drop (List.mem_of_mem_take h)
theorem one_of {xs : List D} {n : Nat} {K : Sl → Nat → Prop} (h0 : xs ≠ []) (h1 : xs.length ≤ 16777216) (hn : n + 400 ≤ 1000000000000000000) (h : ∀ x m, x ∈ xs → n ≤ m → m ≤ n + 400 → K (.val x) m) : F_one_of [dice, .lst xs] n K :=
  ⟨xs, rfl, h0, h1, by simp only [DRW, LIM]; omega, fun x m hx h2 h3 => h x m hx h2 (by simpa only [DRW] using h3)⟩
/-! ### words -/
def wordsOf (S : List Nat) : Nat → List (List Nat)
  | 0 => [[]]
  | k + 1 => (wordsOf S k).flatMap fun w => S.map fun c => w ++ [c]
theorem wordsOf_len (S : List Nat) : ∀ k, (wordsOf S k).length = S.length ^ k
  | 0 => by simp [wordsOf]
  | k + 1 => by
    have hs : ∀ L : List (List Nat), (L.map fun _ => S.length).sum = L.length * S.length := fun L => by
      induction L with
      | nil => simp
      | cons a L ih => rw [List.map_cons, List.sum_cons, ih, List.length_cons, Nat.succ_mul]; omega
    rw [wordsOf, List.length_flatMap]
    simp only [List.length_map]
    rw [hs, wordsOf_len S k, Nat.pow_succ]
theorem wordsOf_mem {S : List Nat} : ∀ {k : Nat} {w : List Nat}, w ∈ wordsOf S k → w.length = k ∧ ∀ c ∈ w, c ∈ S
  | 0, w, h => by simp [wordsOf] at h; subst h; simp
  | k + 1, w, h => by
    rw [wordsOf, List.mem_flatMap] at h
    obtain ⟨u, hu, hw⟩ := h
    obtain ⟨c, hc, rfl⟩ := List.mem_map.mp hw
    have := wordsOf_mem hu
    refine ⟨by simp [this.1], fun d hd => ?_⟩
    rcases List.mem_append.mp hd with hd | hd
    · exact this.2 d hd
    · simp at hd; subst hd; exact hc
theorem wordsOf_le {S : List Nat} {k j : Nat} (h0 : S ≠ []) (h : S.length ^ k ≤ 1000000) (hj : j ≤ k) : (wordsOf S j).length ≤ 1000000 := by
  rw [wordsOf_len]
  exact Nat.le_trans (Nat.pow_le_pow_right (List.length_pos_iff.mpr h0) hj) h
def F_words_of : FC := fun ds n Q => ∃ (S : List Nat) (k : Nat), ds = [.str S, .int k] ∧ S ≠ [] ∧ S.length ^ k ≤ 1000000 ∧ k ≤ 10000 ∧ Q (.val (.lst ((wordsOf S k).map D.str))) n
def F__law_words_of : FC := F_words_of
theorem law__law_words_of : ∀ ds n Q, F__law_words_of ds n Q → ds.length = 2 → cm__law_words_of { nx := fun _ m => Q (.val .non) m, rt := Q } (startE 5 ds) n := by
  rintro ds n Q ⟨S, k, rfl, hS0, hS, hk, h⟩ _
  have hb : ∀ j ≤ k, (wordsOf S j).length ≤ 1000000 := fun j hj => wordsOf_le hS0 hS hj
  unfold cm__law_words_of
  refine sSeq_of fun next0 hn0 => ?_
  simp
  refine ⟨by decide, hn0 _ _ ?_⟩
  refine sSeq_of fun next1 hn1 => ?_
  simp
  refine ⟨by omega, ?_⟩
  rw [ups_eq]
  refine forD_inv (fun pre env m => (∃ x3 x4 x5 x6, env = [some (.val (.str S)), some (.val (.int k)), some (.val (.lst ((wordsOf S pre.length).map D.str))), x3, x4, x5, x6]) ∧ m = n) ?_ ?_ ⟨⟨_, _, _, _, rfl⟩, rfl⟩
  · rintro pre a post env m next hx ⟨⟨x3, x4, x5, x6, rfl⟩, rfl⟩ hn
    have hr := range_pre hx
    simp
    refine sSeq_of fun next2 hn2 => ?_
    simp
    refine hn2 _ _ ?_
    refine sSeq_of fun next3 hn3 => ?_
    simp
    refine forD_inv (fun pr env m' => (∃ x5 x6, env = [some (.val (.str S)), some (.val (.int k)), some (.val (.lst ((wordsOf S pre.length).map D.str))), some (.val (.int (a : Nat))), some (.val (.lst ((pr.flatMap fun w => S.map fun c => w ++ [c]).map D.str))), x5, x6]) ∧ m' = m) ?_ ?_ ⟨⟨_, _, rfl⟩, rfl⟩
    · rintro pr w po env m' next4 hx4 ⟨⟨x5, x6, rfl⟩, rfl⟩ hn4
      have hw : w ∈ wordsOf S pre.length := by rw [hx4]; simp
      have hwl := (wordsOf_mem hw).1
      simp
      refine goD_map (fun c : Nat => D.str (w ++ [c])) (fun c hc j K hK => ?_) ?_
      · simp [stepD]
        refine ⟨by omega, hK⟩
      · have hle : (pr.flatMap fun w => S.map fun c => w ++ [c]).length + S.length ≤ (wordsOf S (pre.length + 1)).length := by
          rw [wordsOf, hx4, List.flatMap_append, List.flatMap_cons, List.length_append, List.length_append]
          simp
        have := hb (pre.length + 1) (by omega)
        refine ⟨by simpa using (by simp at hle ⊢; omega), hn4 _ _ ⟨⟨some (.val (.str w)), x6, ?_⟩, rfl⟩⟩
        simp [List.flatMap_append]
    · rintro env m' ⟨⟨x5, x6, rfl⟩, rfl⟩
      refine hn3 _ _ ?_
      simp
      refine hn _ _ ⟨⟨some (.val (.int (a : Nat))), some (.val (.lst ((wordsOf S (pre.length + 1)).map D.str))), x5, x6, ?_⟩, rfl⟩
      rw [List.length_append]
      rfl
  · rintro env m ⟨⟨x3, x4, x5, x6, rfl⟩, rfl⟩
    refine hn1 _ _ ?_
    simpa using h
/-- two fors, nothing drawn -/
theorem go2_map {α β : Type} {c : α → D} {tg tg1 : FG} {it1 : FA} {te : FE} {vs1 : List Nat} {env : DEnv} (r : α → β → D) (ys : List β) : ∀ {xs : List α} {k n : Nat} {Q : List D → Nat → Prop}, k + xs.length * ys.length ≤ 16777216 →
    (∀ a ∈ xs, ∀ (j m : Nat) (K : List D → Nat → Prop), j + ys.length ≤ 16777216 → K (ys.map (r a)) m → tg (c a) env fun env1 => it1 env1 m fun zs n2 => j + zs.length ≤ 16777216 ∧ goD tg1 tYesD te (wipeE env1 vs1) zs n2 K) →
    Q (xs.flatMap fun a => ys.map (r a)) n → go2 tg tYesD it1 tg1 tYesD te vs1 env (xs.map c) k n Q
  | [], k, n, Q, _, _, h => h
  | a :: xs, k, n, Q, hz, H, h => by
    rw [List.length_cons, Nat.succ_mul] at hz
    refine H a (List.mem_cons_self ..) k n (fun zs n3 => go2 tg tYesD it1 tg1 tYesD te vs1 env (xs.map c) (k + zs.length) n3 fun ws n4 => Q (zs ++ ws) n4) (by omega) ?_
    refine go2_map r ys (by rw [List.length_map]; omega) (fun b hb => H b (List.mem_cons_of_mem _ hb)) ?_
    simpa [List.flatMap_cons] using h
theorem law_words_of : ∀ ds n Q, F_words_of ds n Q → ds.length = 2 → cm_words_of { nx := fun _ m => Q (.val .non) m, rt := Q } (startE 4 ds) n := by
  rintro ds n Q ⟨S, k, rfl, hS0, hS, hk, h⟩ _
  have hb : ∀ j ≤ k, (wordsOf S j).length ≤ 1000000 := fun j hj => wordsOf_le hS0 hS hj
  simp [sSeq, cm_words_of]
  refine ⟨by decide, by omega, ?_⟩
  rw [ups_eq]
  refine forD_inv (fun pre env m => (∃ x3, env = [some (.val (.str S)), some (.val (.int k)), some (.val (.lst ((wordsOf S pre.length).map D.str))), x3, none, none]) ∧ m = n) ?_ ?_ ⟨⟨none, rfl⟩, rfl⟩
  · rintro pre a post env m next hx ⟨⟨x3, rfl⟩, rfl⟩ hn
    have hr := range_pre hx
    have h1 := hb (pre.length + 1) (by omega)
    have h2 := hb pre.length (by omega)
    rw [wordsOf_len] at h1
    simp
    refine go2_map (fun (w : List Nat) (c : Nat) => D.str (w ++ [c])) S ?_ (fun w hw j m' K hj hK => ?_) ?_
    · rw [Nat.zero_add, wordsOf_len, ← Nat.pow_succ, Nat.succ_eq_add_one]; omega
    · have hwl := (wordsOf_mem hw).1
      simp
      refine ⟨by omega, ?_⟩
      refine goD_map (fun c : Nat => D.str (w ++ [c])) (fun c hc j K2 hK2 => ?_) hK
      simp [stepD]
      exact ⟨by omega, hK2⟩
    · refine hn _ _ ⟨⟨some (.val (.int (a : Nat))), ?_⟩, rfl⟩
      rw [List.length_append]
      simp [wordsOf, List.map_flatMap, Function.comp_def]
  · rintro env m ⟨⟨x3, rfl⟩, rfl⟩
    simpa using h
end DL

/-! ## GrB -/
/-! GrB: grounds, their windows: contracts -/
namespace DL
open PySem L2
theorem Letters.okG {s : List Nat} {g : Nat} (h : Letters s.length s) (h2 : 2 ≤ s.length) (hg : 2 ≤ g) : OkG s g := by
  have hl := low_iff.mp h.low
  have hs : sizeLine = 16777216 := PySem.sizeLine_eq
  have hn : s.length ≤ 26 := by
    have := nodup_le (h.inc.imp (fun h => Nat.ne_of_lt h)) fun x hx => show x ∈ ABC from by
      have := hl x hx
      have h3 : ∀ c, c ≤ 122 → 97 ≤ c → c ∈ ABC := by decide
      exact h3 x this.2 this.1
    exact this
  exact ⟨⟨by omega, fun c hc => by have := hl c hc; omega⟩, hl, h2, h.inc, hg⟩
theorem OkG.len {s : List Nat} {g : Nat} (h : OkG s g) : s.length ≤ 26 :=
  nodup_le (h.inc.imp (fun h => Nat.ne_of_lt h)) fun x hx => show x ∈ ABC from by
    have := h.low x hx
    have h3 : ∀ c, c ≤ 122 → 97 ≤ c → c ∈ ABC := by decide
    exact h3 x this.2 this.1
/-! ### is_rising, the tests of __init__ -/
def F_is_rising : FC := fun ds n Q => ∃ s : List Nat, ds = [.str s] ∧ s.Pairwise (· < ·) ∧ s.length ≤ 26 ∧ Q (.val (.bl true)) n
theorem law_is_rising : ∀ ds n Q, F_is_rising ds n Q → ds.length = 1 → cm_is_rising { nx := fun _ m => Q (.val .non) m, rt := Q } (startE 1 ds) n := by
  rintro ds n Q ⟨s, rfl, hs, hl, h⟩ _
  simp [cm_is_rising]
  refine ⟨by omega, ?_⟩
  rw [ups_upto']
  refine goD_map (fun p : Nat => D.bl true) (fun p hp m K hK => ?_) ?_
  · have hp2 := mem_upto.mp hp
    simp [stepD]
    have e : (p : Int) - 1 = ((p - 1 : Nat) : Int) := by omega
    rw [e]
    refine ⟨_, atI_D (by omega), _, atI_D (by omega), ?_⟩
    have : s.getD (p - 1) 0 < s.getD p 0 := by
      rw [List.pairwise_iff_getElem] at hs
      have := hs (p - 1) p (by omega) (by omega) (by omega)
      have h1 : p < s.length := by omega
      have h2 : p - 1 < s.length := by omega
      simpa [h1, h2] using this
    rw [decide_eq_true this]
    exact hK
  · refine ⟨(upto s.length).map fun _ => true, by simp, ?_⟩
    have e : ((upto s.length).map fun _ => true).all id = true := by simp
    rw [e]; exact h
theorem law_init1 : ∀ s g, OkG s g → ∀ n, cm_init1 F_is_count F_is_rising F_is_text [none, some (.str s), some (.int (g : Nat))] n fun b m => b = false ∧ m = n := by
  intro s g ok n
  have := ok.two
  have hl := low_iff.mpr ok.low
  simp [cm_init1]
  refine ⟨_, rfl, rfl, ?_⟩
  simp [hl]
  have h2 : ¬ ((s.length : Int) < 2) := by omega
  exact ⟨by omega, s, rfl, ok.inc, ok.len, by simp⟩
theorem law_init2 : ∀ s g, OkG s g → ∀ n, cm_init2 F_is_count F_is_rising F_is_text [none, some (.str s), some (.int (g : Nat))] n fun b m => b = false ∧ m = n := by
  intro s g ok n
  have := ok.gap
  simp [cm_init2]
  refine ⟨_, _, rfl, rfl, .inl rfl, ?_⟩
  simp
  omega
/-! ### repeats -/
def reps (w : List Nat) (g : Nat) : Bool := (upto (min g w.length)).any (isPer w)
def F_repeats : FC := fun ds n Q => ∃ (w : List Nat) (g : Nat), ds = [.str w, .int g] ∧ w.length ≤ 1000000 ∧ Q (.val (.bl (reps w g))) n
def F__law_repeats : FC := F_repeats
theorem ups_min (g k : Nat) : ups 1 ((min (g : Int) (k : Int)).toNat - 1) = I (upto (min g k)) := by
  rw [← ups_upto']
  congr 2
  omega
theorem law_repeats : ∀ ds n Q, F_repeats ds n Q → ds.length = 2 → cm_repeats F_has { nx := fun _ m => Q (.val .non) m, rt := Q } (startE 1 ds) n := by
  rintro ds n Q ⟨w, g, rfl, hl, h⟩ _
  simp [cm_repeats]
  refine ⟨⟨by omega, by omega⟩, ?_⟩
  rw [ups_min]
  refine goD_map (fun p : Nat => D.bl (isPer w p)) (fun p hp m K hK => ?_) ?_
  · simp [stepD]
    exact ⟨w, p, rfl, hl, hK⟩
  · refine ⟨(upto (min g w.length)).map (isPer w), by rw [all_bl], ?_⟩
    simpa [reps, List.any_map] using h
theorem law__law_repeats : ∀ ds n Q, F__law_repeats ds n Q → ds.length = 2 → cm__law_repeats { nx := fun _ m => Q (.val .non) m, rt := Q } (startE 1 ds) n := by
  rintro ds n Q ⟨w, g, rfl, hl, h⟩ _
  simp [cm__law_repeats]
  refine ⟨⟨by omega, by omega⟩, ?_⟩
  rw [ups_min]
  refine goD_map (fun p : Nat => D.bl (isPer w p)) (fun p hp m K hK => ?_) ?_
  · have hp2 := mem_upto.mp hp
    simp [stepD]
    have e : (w.length : Int) - (p : Int) = ((w.length - p : Nat) : Int) := by omega
    rw [e, cutL_take, cutL_drop]
    have h3 : p < w.length := by omega
    simpa [isPer, h3] using hK
  · refine ⟨(upto (min g w.length)).map (isPer w), by rw [all_bl], ?_⟩
    simpa [reps, List.any_map] using h
/-! ### checks -/
def F_check_ground : FC := fun ds n Q => ∃ s g, ds = [gnd s g] ∧ Q (.val .non) n
theorem law_check_ground : ∀ ds n Q, F_check_ground ds n Q → ds.length = 1 → cm_check_ground { nx := fun _ m => Q (.val .non) m, rt := Q } (startE 0 ds) n := by
  rintro ds n Q ⟨s, g, rfl, h⟩ _
  simpa [cm_check_ground] using h
def isTxOf (s : List Nat) : D → Bool
  | .str t => t.all fun c => decide (c ∈ s)
  | _ => false
@[simp] theorem isTxOf_str (s t : List Nat) : isTxOf s (.str t) = t.all fun c => decide (c ∈ s) := rfl
def F_is_text_of : FC := fun ds n Q => ∃ s g d, ds = [gnd s g, d] ∧ hasTy d = true ∧ Q (.val (.bl (isTxOf s d))) n
theorem law_is_text_of : ∀ ds n Q, F_is_text_of ds n Q → ds.length = 2 → cm_is_text_of { nx := fun _ m => Q (.val .non) m, rt := Q } (startE 1 ds) n := by
  rintro ds n Q ⟨s, g, d, rfl, hd, h⟩ _
  by_cases ht : ∃ t, d = .str t
  case neg =>
    cases d <;> first | exact absurd ⟨_, rfl⟩ ht | (cases hd; done) | (simp [cm_is_text_of]; simpa [isTxOf] using h)
  obtain ⟨t, rfl⟩ := ht
  simp [cm_is_text_of]
  refine goD_map (fun c : Nat => D.bl (decide (c ∈ s))) (fun c hc m K hK => ?_) ?_
  · simpa [stepD] using hK
  · refine ⟨t.map fun c => decide (c ∈ s), by rw [all_bl], ?_⟩
    simpa [List.all_map, Function.comp_def] using h
def F_is_window_of : FC := fun ds n Q => ∃ s g t, ds = [gnd s g, .str t] ∧ 1 ≤ g ∧ Q (.val (.bl (isTxOf s (.str t) && decide (t.length = 2 * g - 2)))) n
theorem law_is_window_of : ∀ ds n Q, F_is_window_of ds n Q → ds.length = 2 → cm_is_window_of F_is_text_of { nx := fun _ m => Q (.val .non) m, rt := Q } (startE 0 ds) n := by
  rintro ds n Q ⟨s, g, t, rfl, hg, h⟩ _
  simp [cm_is_window_of]
  refine ⟨_, _, _, rfl, rfl, ?_⟩
  have e : ((t.length : Int) == 2 * (g : Int) - 2) = decide (t.length = 2 * g - 2) := by
    rw [Bool.eq_iff_iff]; simp; omega
  cases hb : isTxOf s (.str t) with
  | false => rw [hb] at h; simpa using h
  | true => rw [hb] at h; simpa [e] using h
/-- a window of a ground -/
structure Wnd (s : List Nat) (g : Nat) (w : List Nat) : Prop where
  mem : ∀ c ∈ w, c ∈ s
  len : w.length = 2 * g - 2
def F_check_window : FC := fun ds n Q => ∃ s g w, ds = [gnd s g, .str w] ∧ 1 ≤ g ∧ Wnd s g w ∧ Q (.val .non) n
theorem law_check_window : ∀ ds n Q, F_check_window ds n Q → ds.length = 2 → cm_check_window F_is_window_of { nx := fun _ m => Q (.val .non) m, rt := Q } (startE 0 ds) n := by
  rintro ds n Q ⟨s, g, w, rfl, hg, hw, h⟩ _
  simp [cm_check_window]
  refine ⟨_, _, _, rfl, hg, ?_⟩
  have : (isTxOf s (.str w) && decide (w.length = 2 * g - 2)) = true := by
    simp [hw.len]
    exact hw.mem
  rw [this]
  simpa using h
def F_check_two_windows : FC := fun ds n Q => ∃ s g a b, ds = [gnd s g, .str a, .str b] ∧ 1 ≤ g ∧ Wnd s g a ∧ Wnd s g b ∧ Q (.val .non) n
theorem law_check_two_windows : ∀ ds n Q, F_check_two_windows ds n Q → ds.length = 3 → cm_check_two_windows F_check_ground F_check_window { nx := fun _ m => Q (.val .non) m, rt := Q } (startE 0 ds) n := by
  rintro ds n Q ⟨s, g, a, b, rfl, hg, ha, hb, h⟩ _
  unfold cm_check_two_windows
  refine sSeq_of fun next0 hn0 => ?_
  simp
  refine ⟨_, _, rfl, hn0 _ _ ?_⟩
  refine sSeq_of fun next1 hn1 => ?_
  simp
  refine ⟨_, _, _, rfl, hg, ha, hn1 _ _ ?_⟩
  simp
  exact ⟨_, _, _, rfl, hg, hb, h⟩
/-! ### own windows -/
def ownW (s : List Nat) (g : Nat) : List (List Nat) := (wordsOf s (2 * g - 2)).filter fun w => !reps w g
def cv0 : CV := fun s g k => if k = .inr "own" then some (.lst ((ownW s g).map D.str)) else none
theorem cv0_keys : ∀ s g k d, cv0 s g k = some d → k ∈ ckeys := by
  intro s g k d h
  unfold cv0 at h
  split at h
  · rename_i e; subst e; simp [ckeys]
  · cases h
/-- few words -/
structure Few (s : List Nat) (g : Nat) : Prop where
  ok : OkG s g
  few : s.length ^ (2 * g - 2) ≤ 1000000
  gap : g ≤ 1000
theorem Few.ne {s : List Nat} {g : Nat} (h : Few s g) : s ≠ [] := fun e => by have := h.ok.two; rw [e] at this; simp at this
def F_own_list : FC := fun ds n Q => ∃ s g, ds = [gnd s g] ∧ Few s g ∧ Q (.own ((ownW s g).map D.str)) n
theorem law_own_list : ∀ ds n Q, F_own_list ds n Q → ds.length = 1 → cm_own_list cv0 F_repeats F_words_of { nx := fun _ m => Q (.val .non) m, rt := Q } (startE 2 ds) n := by
  rintro ds n Q ⟨s, g, rfl, hw, h⟩ _
  have h2 := hw.ok.gap
  have h3 := hw.gap
  have e : 2 * (g : Int) - 2 = ((2 * g - 2 : Nat) : Int) := by omega
  simp [cm_own_list]
  refine ⟨s, g, ⟨rfl, rfl⟩, ownW s g, rfl, h, ?_⟩
  rw [e]
  refine ⟨s, _, rfl, hw.ne, hw.few, by omega, ?_⟩
  simp
  refine goD_filter (fun w => !reps w g) (fun w => D.str w) (fun w hw' m K hT hF => ?_) ?_
  · have hl := (wordsOf_mem hw').1
    simp [stepD]
    refine ⟨w, _, rfl, by omega, ?_⟩
    cases e : reps w g with
    | true => simpa using hF (by rw [e]; rfl)
    | false => simpa using hT (by rw [e]; rfl)
  · exact ⟨rfl, h⟩
def F__law_own : FC := fun ds n Q => ∃ (s : List Nat) (g : Nat), ds = [.tup [.str s, .int g]] ∧ Few s g ∧ Q (.own ((ownW s g).map D.str)) n
theorem law__law_own : ∀ ds n Q, F__law_own ds n Q → ds.length = 1 → cm__law_own F__law_repeats F__law_words_of { nx := fun _ m => Q (.val .non) m, rt := Q } (startE 1 ds) n := by
  rintro ds n Q ⟨s, g, rfl, hw, h⟩ _
  have h2 := hw.ok.gap
  have h3 := hw.gap
  have e : 2 * (g : Int) - 2 = ((2 * g - 2 : Nat) : Int) := by omega
  simp [cm__law_own]
  refine ⟨MulOk.left (by omega), ?_⟩
  rw [e]
  refine ⟨s, _, rfl, hw.ne, hw.few, by omega, ?_⟩
  simp
  refine goD_filter (fun w => !reps w g) (fun w => D.str w) (fun w hw' m K hT hF => ?_) h
  have hl := (wordsOf_mem hw').1
  simp [stepD]
  refine ⟨w, _, rfl, by omega, ?_⟩
  cases e : reps w g with
  | true => simpa using hF (by rw [e]; rfl)
  | false => simpa using hT (by rw [e]; rfl)
/-! ### near windows -/
def dist (a b : List Nat) (g : Nat) : List Nat := (upto g).filter fun k => a.drop k == b.take (a.length - k)
def near (a b : List Nat) (g : Nat) : Bool := !(dist a b g).isEmpty || !(dist b a g).isEmpty
def F_distances_in : FC := fun ds n Q => ∃ (a b : List Nat) (g : Nat), ds = [.str a, .str b, .int g] ∧ g ≤ a.length + 1 ∧ a.length ≤ 1000000 ∧ Q (.own (I (dist a b g))) n
def F__law_behind_at : FC := F_distances_in
theorem law_distances_in : ∀ ds n Q, F_distances_in ds n Q → ds.length = 3 → cm_distances_in { nx := fun _ m => Q (.val .non) m, rt := Q } (startE 1 ds) n := by
  rintro ds n Q ⟨a, b, g, rfl, hg, hl, h⟩ _
  simp [cm_distances_in]
  refine ⟨by omega, ?_⟩
  rw [ups_upto']
  refine goD_filter (fun k => a.drop k == b.take (a.length - k)) (fun p : Nat => D.int p) (fun p hp m K hT hF => ?_) h
  have hp2 := mem_upto.mp hp
  simp [stepD]
  have e : (a.length : Int) - (p : Int) = ((a.length - p : Nat) : Int) := by omega
  rw [e, cutL_take, cutL_drop]
  by_cases e2 : a.drop p = b.take (a.length - p)
  · simpa [e2] using hT (by simp [e2])
  · simpa [e2] using hF (by simp [e2])
theorem law__law_behind_at : ∀ ds n Q, F__law_behind_at ds n Q → ds.length = 3 → cm__law_behind_at { nx := fun _ m => Q (.val .non) m, rt := Q } (startE 1 ds) n := law_distances_in
def F_is_near : FC := fun ds n Q => ∃ (a b : List Nat) (g : Nat), ds = [.str a, .str b, .int g] ∧ g ≤ a.length + 1 ∧ a.length = b.length ∧ a.length ≤ 1000000 ∧ Q (.val (.bl (near a b g))) n
def F__law_near : FC := F_is_near
theorem law_is_near : ∀ ds n Q, F_is_near ds n Q → ds.length = 3 → cm_is_near F_distances_in { nx := fun _ m => Q (.val .non) m, rt := Q } (startE 0 ds) n := by
  rintro ds n Q ⟨a, b, g, rfl, hg, hab, hl, h⟩ _
  simp [cm_is_near]
  refine ⟨_, _, _, rfl, hg, hl, ?_⟩
  unfold near at h
  cases e : dist a b g with
  | nil =>
    rw [e] at h
    simp
    refine ⟨_, _, _, rfl, by omega, by omega, ?_⟩
    cases e2 : dist b a g with
    | nil => rw [e2] at h; simpa using h
    | cons y ys =>
      rw [e2] at h
      have hp : plains 63 (I ys) = true := plains_I _
      simpa [hp] using h
  | cons y ys =>
    rw [e] at h
    have hp : plains 63 (I ys) = true := plains_I _
    simpa [hp] using h
theorem law__law_near : ∀ ds n Q, F__law_near ds n Q → ds.length = 3 → cm__law_near F__law_behind_at { nx := fun _ m => Q (.val .non) m, rt := Q } (startE 0 ds) n := law_is_near
/-! ### grounds are made -/
def F__law_made : FC := fun ds n Q => ∃ (s : List Nat) (g : Nat), ds = [.tup [.str s, .int g]] ∧ OkG s g ∧ Q (.val (gnd s g)) n
theorem law__law_made : ∀ ds n Q, F__law_made ds n Q → ds.length = 1 → cm__law_made { nx := fun _ m => Q (.val .non) m, rt := Q } (startE 0 ds) n := by
  rintro ds n Q ⟨s, g, rfl, hw, h⟩ _
  simp [cm__law_made]
  exact gMkG_of hw h
end DL

/-! ## GrC -/
/-! GrC: near ones, great grounds and windows: readings and contracts -/
namespace DL
open PySem L2
/-- near_ones(ground, window), slots 0 ground 1 window 2 late -/
def cm_near_ones (F_check_ground : FC) (F_check_window : FC) (F_is_near : FC) (F_own_list : FC) : FS := (sSeq (sDrop (fCall 1 F_check_ground [] (aCons (fVar 0) aNil))) (sSeq (sDrop (fCall 2 F_check_window [] (aCons (fVar 0) (aCons (fVar 1) aNil)))) (sRetO (oComp (iSeq (fCall 1 F_own_list [] (aCons (fVar 0) aNil))) (gN 2) (tTru (fCall 3 F_is_near [] (aCons (fVar 1) (aCons (fVar 2) (aCons (f1 gLeast (fVar 0)) aNil))))) (fVar 2) [2]))))
/-- _law_great_ground(dice, most), slots 0 dice 1 most -/
def cm__law_great_ground (F__law_draw : FC) (F__law_letters : FC) : FS := (sRet (fTup (aCons (fCall 2 F__law_letters [] (aCons (fVar 0) (aCons (f2 gAdd3 (fC (.int 2)) (fCall 2 F__law_draw [] (aCons (fVar 0) (aCons (fC (.int 5)) aNil)))) aNil))) (aCons (f2 gAdd3 (fC (.int 2)) (fCall 2 F__law_draw [] (aCons (fVar 0) (aCons (f2 gSub (fVar 1) (fC (.int 1))) aNil)))) aNil))))
/-- _law_great_window(dice, ground), slots 0 dice 1 ground 2 size 3 signs 4 word 5 window 6 at 7 spin -/
def cm__law_great_window (F__law_draw : FC) (F__law_one_of : FC) : FS := (sSeq (sPar [2, 3] (xCons (xV (f2 gSub (f2 gMul (fC (.int 2)) (f2 gIx (fVar 1) (fC (.int 1)))) (fC (.int 2)))) (xCons (xV (fFrz (oCl oList (aCons (f2 gIx (fVar 1) (fC (.int 0))) aNil)))) xNil))) (sSeq (sAsg 4 (fM1 gJoin (fC (.str [])) (fFrz (oComp (iRange1 (aCons (f2 gAdd3 (fC (.int 1)) (fCall 2 F__law_draw [] (aCons (fVar 0) (aCons (f2 gAdd3 (f2 gIx (fVar 1) (fC (.int 1))) (fC (.int 1))) aNil)))) aNil)) (gN 7) tYesD (fCall 2 F__law_one_of [] (aCons (fVar 0) (aCons (fVar 3) aNil))) [7])))) (sSeq (sPar [5, 6] (xCons (xV (fSl (f2 gMul (fVar 4) (fVar 2)) oNo (oSo (fVar 2)))) (xCons (xV (fCall 2 F__law_draw [] (aCons (fVar 0) (aCons (fVar 2) aNil)))) xNil))) (sRet (fIf (tVal (f2 gEq (fCall 2 F__law_draw [] (aCons (fVar 0) (aCons (fC (.int 2)) aNil))) (fC (.int 0)))) (fVar 5) (f2 gAdd3 (f2 gAdd3 (fSl (fVar 5) oNo (oSo (fVar 6))) (fCall 2 F__law_one_of [] (aCons (fVar 0) (aCons (fVar 3) aNil)))) (fSl (fVar 5) (oSo (f2 gAdd3 (fVar 6) (fC (.int 1)))) oNo)))))))
theorem tuple3 : 3 ≤ sizeLine := by rw [PySem.sizeLine_eq]; decide
theorem wgl {s w : List Nat} {g : Nat} (h : Wnd s g w) (hg : 2 ≤ g) : g ≤ w.length + 1 := by have := h.len; omega
def F_near_ones : FC := fun ds n Q => ∃ s g a, ds = [gnd s g, .str a] ∧ Few s g ∧ Wnd s g a ∧ Q (.own (((ownW s g).filter fun w => near a w g).map D.str)) n
theorem own_wnd {s w : List Nat} {g : Nat} (h : w ∈ ownW s g) : Wnd s g w := by
  have := wordsOf_mem (List.mem_filter.mp h).1
  exact ⟨this.2, this.1⟩
theorem law_near_ones : ∀ ds n Q, F_near_ones ds n Q → ds.length = 2 → cm_near_ones F_check_ground F_check_window F_is_near F_own_list { nx := fun _ m => Q (.val .non) m, rt := Q } (startE 1 ds) n := by
  rintro ds n Q ⟨s, g, a, rfl, hw, ha, h⟩ _
  have hg := hw.ok.gap
  have hg2 := hw.gap
  unfold cm_near_ones
  refine sSeq_of fun next0 hn0 => ?_
  simp
  refine ⟨s, g, rfl, hn0 _ _ ?_⟩
  refine sSeq_of fun next1 hn1 => ?_
  simp
  refine ⟨s, g, a, rfl, by omega, ha, hn1 _ _ ?_⟩
  simp
  refine ⟨s, g, rfl, hw, ?_⟩
  simp
  refine goD_filter (fun w => near a w g) (fun w => D.str w) (fun w hw' m K hT hF => ?_) h
  have hw2 := own_wnd hw'
  simp [stepD]
  refine ⟨a, w, g, rfl, (wgl ha hg), by rw [ha.len, hw2.len], by have := ha.len; omega, ?_⟩
  cases e : near a w g with
  | true => simpa using hT e
  | false => simpa using hF e
/-- a ground drawn, with few signs -/
structure Grt (most : Nat) (s : List Nat) (g : Nat) : Prop where
  ok : OkG s g
  six : s.length ≤ 6
  g2 : g ≤ most
theorem letters_of {many n : Nat} {K : Sl → Nat → Prop} (h1 : many ≤ 26) (hn : n + 10400 ≤ 1000000000000000000) (h : ∀ s m, Letters many s → n ≤ m → m ≤ n + 10400 → K (.val (.str s)) m) : F__law_letters [dice, .int (many : Nat)] n K :=
  ⟨many, rfl, h1, by simp only [DRW, LIM]; omega, fun s m hs h2 h3 => h s m hs h2 (by simpa only [DRW] using h3)⟩
def F__law_great_ground : FC := fun ds n Q => ∃ most : Nat, ds = [dice, .int most] ∧ 2 ≤ most ∧ most ≤ 1000 ∧ n + 20000 ≤ 1000000000000000000 ∧ ∀ s g m, Grt most s g → n ≤ m → m ≤ n + 20000 → Q (.val (.tup [.str s, .int (g : Nat)])) m
theorem law__law_great_ground : ∀ ds n Q, F__law_great_ground ds n Q → ds.length = 2 → cm__law_great_ground F_draw F__law_letters { nx := fun _ m => Q (.val .non) m, rt := Q } (startE 0 ds) n := by
  rintro ds n Q ⟨most, rfl, hm, hm2, hn, h⟩ _
  unfold cm__law_great_ground
  simp
  refine draw_of (by omega) (by omega) (by omega) fun r m hr h1 h2 => ?_
  simp
  have e : (2 : Int) + (r : Int) = ((2 + r : Nat) : Int) := by omega
  rw [e]
  refine letters_of (by omega) (by omega) fun s m2 hs h3 h4 => ?_
  simp
  refine draw_of (by omega) (by omega) (by omega) fun r2 m3 hr2 h5 h6 => ?_
  simp
  have e2 : (2 : Int) + (r2 : Int) = ((2 + r2 : Nat) : Int) := by omega
  rw [e2]
  have hsl := hs.len
  have hs' : Letters s.length s := ⟨rfl, hs.low, hs.inc⟩
  refine ⟨by rw [PySem.sizeLine_eq]; decide, h s (2 + r2) m3 ⟨hs'.okG (by omega) (by omega), by omega, by omega⟩ (by omega) (by omega)⟩
def F__law_great_window : FC := fun ds n Q => ∃ (s : List Nat) (g : Nat), ds = [dice, .tup [.str s, .int g]] ∧ Grt 1000 s g ∧ n + 500000 ≤ 1000000000000000000 ∧ ∀ w m, Wnd s g w → n ≤ m → m ≤ n + 500000 → Q (.val (.str w)) m
/-- letters drawn of a row, joined -/
theorem drawn_ones {s : List Nat} {xs : List Nat} {te : FE} {tg : FG} {env : DEnv} {n : Nat} {Q : List D → Nat → Prop} (hs : s ≠ []) (hsl : s.length ≤ 1000) (hx : xs.length ≤ 100000) (hn : n + 400 * xs.length ≤ 1000000000000000000)
    (c : Nat → D) (H : ∀ a ∈ xs, ∀ (m : Nat) (K : Option D → Nat → Prop), (F_one_of [dice, .lst (s.map fun c => .str [c])] m fun sl k => K (some sl.view) k) → stepD tg tYesD te env (c a) m K)
    (hQ : ∀ (cs : List Nat) (m : Nat), (∀ c ∈ cs, c ∈ s) → cs.length = xs.length → n ≤ m → m ≤ n + 400 * xs.length → Q ((cs.map fun c => [c]).map D.str) m) : goD tg tYesD te env (xs.map c) n Q := by
  refine goD_draws 400 (fun y => ∃ c : Nat, y = .str [c] ∧ c ∈ s) 1000000000000000000 hn (fun a ha m K hm hK => H a ha m K ?_) fun ys m h1 h2 h3 h4 => ?_
  · refine one_of (by simpa using hs) (by rw [List.length_map]; omega) hm fun x k hx h1 h2 => ?_
    obtain ⟨c, hc, rfl⟩ := List.mem_map.mp hx
    exact hK _ _ h1 h2 ⟨c, rfl, hc⟩
  · obtain ⟨cs, rfl, hcs⟩ := ones_of h3
    refine hQ cs m hcs (by simpa using h4) h1 h2
theorem wnd_set {s w : List Nat} {g i c : Nat} (hw : Wnd s g w) (hc : c ∈ s) (hi : i < w.length) : Wnd s g (w.take i ++ ([c] ++ w.drop (i + 1))) := by
  refine ⟨fun x hx => ?_, ?_⟩
  · rcases List.mem_append.mp hx with hx | hx
    · exact hw.mem x (List.mem_of_mem_take hx)
    rcases List.mem_append.mp hx with hx | hx
    · simp at hx; subst hx; exact hc
    · exact hw.mem x (List.mem_of_mem_drop hx)
  · rw [← hw.len]; simp; omega
theorem wnd_rep {s w : List Nat} {g : Nat} (hw : ∀ c ∈ w, c ∈ s) (h0 : 1 ≤ w.length) : Wnd s g ((List.replicate (2 * g - 2) w).flatten.take (2 * g - 2)) := by
  refine ⟨fun x hx => rep_mem hw x (List.mem_of_mem_take hx), ?_⟩
  rw [List.length_take, rep_len]
  have : (2 * g - 2) * 1 ≤ (2 * g - 2) * w.length := Nat.mul_le_mul_left _ h0
  omega
theorem flat_rep {w : List Nat} {k : Nat} : ((List.replicate k w).flatten).length = k * w.length := by simp
theorem law__law_great_window : ∀ ds n Q, F__law_great_window ds n Q → ds.length = 2 → cm__law_great_window F_draw F_one_of { nx := fun _ m => Q (.val .non) m, rt := Q } (startE 6 ds) n := by
  rintro ds n Q ⟨s, g, rfl, hG, hn, h⟩ _
  have hg := hG.ok.gap
  have hg2 := hG.g2
  have hs2 := hG.ok.two
  have hs6 := hG.six
  have hs0 : s ≠ [] := fun e => by rw [e] at hs2; simp at hs2
  unfold cm__law_great_window
  refine sSeq_of fun next0 hn0 => ?_
  simp
  refine ⟨MulOk.left (by omega), hn0 _ _ ?_⟩
  refine sSeq_of fun next1 hn1 => ?_
  simp
  refine draw_of (by omega) (by omega) (by omega) fun r m hr h1 h2 => ?_
  simp
  refine ⟨by omega, ?_⟩
  have e : ((1 : Int) + (r : Int)).toNat = 1 + r := by omega
  rw [e, ups_eq]
  refine drawn_ones (s := s) hs0 (by omega) (by rw [List.length_range]; omega) (by rw [List.length_range]; omega) _ (fun a ha m2 K hK => ?_) fun cs m2 hcs hcl h3 h4 => ?_
  · simp [stepD]
    exact hK
  rw [List.length_range] at hcl h4
  refine join_ones (by omega) ?_
  refine hn1 _ _ ?_
  refine sSeq_of fun next2 hn2 => ?_
  simp
  have e2 : (2 : Int) * (g : Int) - 2 = ((2 * g - 2 : Nat) : Int) := by omega
  rw [e2]
  have hb : cs.length * (2 * g - 2) ≤ 10000000 := by
    have : cs.length * (2 * g - 2) ≤ 1001 * 2000 := Nat.mul_le_mul (by omega) (by omega)
    omega
  refine ⟨⟨by omega, by omega, by rw [PySem.sizeLine_eq]; simp; omega⟩, ?_⟩
  refine draw_of (by omega) (by omega) (by omega) fun at_ m3 hat h5 h6 => ?_
  simp
  refine hn2 _ _ ?_
  rw [cutL_take]
  have hW := wnd_rep (s := s) (w := cs) (g := g) hcs (by omega)
  generalize (List.replicate (2 * g - 2) cs).flatten.take (2 * g - 2) = W at hW
  have hWl := hW.len
  simp
  refine draw_of (by omega) (by omega) (by omega) fun r3 m4 hr3 h7 h8 => ?_
  simp
  by_cases hz : r3 = 0
  · simp [hz]
    exact h _ _ hW (by omega) (by omega)
  · simp [hz]
    refine one_of (by simpa using hs0) (by rw [List.length_map]; omega) (by omega) fun x m5 hx h9 h10 => ?_
    obtain ⟨c, hc, rfl⟩ := List.mem_map.mp hx
    simp
    have e3 : (at_ : Int) + 1 = ((at_ + 1 : Nat) : Int) := by omega
    rw [e3, cutL_take, cutL_drop]
    refine ⟨by simp; omega, by simp; omega, ?_⟩
    refine h _ _ (wnd_set hW hc (by omega)) (by omega) (by omega)
theorem words_in {S : List Nat} : ∀ (k : Nat) (w : List Nat), w.length = k → (∀ c ∈ w, c ∈ S) → w ∈ wordsOf S k
  | 0, w, h, _ => by
    have : w = [] := List.length_eq_zero_iff.mp h
    subst this
    simp [DL.wordsOf]
  | k + 1, w, h, hm => by
    have hne : w ≠ [] := fun e => by rw [e] at h; simp at h
    rw [DL.wordsOf, List.mem_flatMap]
    refine ⟨w.dropLast, words_in k _ (by rw [List.length_dropLast]; omega) fun c hc => hm c (List.dropLast_subset w hc), ?_⟩
    exact List.mem_map.mpr ⟨w.getLast hne, hm _ (List.getLast_mem hne), List.dropLast_concat_getLast hne⟩
theorem own_ne {s : List Nat} {g : Nat} (h : OkG s g) : ownW s g ≠ [] := by
  have hg := h.gap
  have h2 := h.two
  have hlt := (List.pairwise_iff_getElem.mp h.inc) 0 1 (by omega) (by omega) (by omega)
  have m0 := List.getElem_mem (show 0 < s.length by omega)
  have m1 := List.getElem_mem (show 1 < s.length by omega)
  generalize s[0] = c0 at hlt m0
  generalize s[1] = c1 at hlt m1
  have hl : (List.replicate (2 * g - 3) c0 ++ [c1]).length = 2 * g - 2 := by simp; omega
  have hw : (List.replicate (2 * g - 3) c0 ++ [c1]) ∈ ownW s g := by
    refine List.mem_filter.mpr ⟨words_in _ _ hl fun c hc => ?_, ?_⟩
    · rcases List.mem_append.mp hc with hc | hc
      · rw [(List.mem_replicate.mp hc).2]; exact m0
      · simp at hc; subst hc; exact m1
    · cases e : reps (List.replicate (2 * g - 3) c0 ++ [c1]) g with
      | false => rfl
      | true =>
        exfalso
        unfold reps at e
        obtain ⟨p, hp, hper⟩ := List.any_eq_true.mp e
        have hp2 := mem_upto.mp hp
        obtain ⟨q1, q2⟩ := per_iff.mp hper
        have := q2 (2 * g - 3 - p) (by omega)
        rw [show 2 * g - 3 - p + p = 2 * g - 3 from by omega] at this
        have e1 : (List.replicate (2 * g - 3) c0 ++ [c1]).getD (2 * g - 3) 0 = c1 := by
          rw [List.getD_eq_getElem?_getD, List.getElem?_append_right (by simp)]
          simp
        have e2 : (List.replicate (2 * g - 3) c0 ++ [c1]).getD (2 * g - 3 - p) 0 = c0 := by
          rw [List.getD_eq_getElem?_getD, List.getElem?_append_left (by simp; omega), List.getElem?_replicate, if_pos (by omega)]
          rfl
        rw [e1, e2] at this
        omega
  exact fun e => by rw [e] at hw; simp at hw
theorem word_wnd {s w : List Nat} {g : Nat} (h : w ∈ wordsOf s (2 * g - 2)) : Wnd s g w := ⟨(wordsOf_mem h).2, (wordsOf_mem h).1⟩
theorem Gnd.few {most : Int} {s : List Nat} {g : Nat} (h : Gnd most s g) : Few s g := by
  have h2 := h.two
  refine ⟨h.let_.okG h2.1 h2.2.2.1, ?_, by omega⟩
  have h3 : s.length ^ (2 * g - 2) ≤ 5 ^ (2 * g - 2) := Nat.pow_le_pow_left h2.2.1 _
  have h4 : 5 ^ (2 * g - 2) ≤ 5 ^ 6 := Nat.pow_le_pow_right (by decide) (by omega)
  have h5 : 5 ^ 6 ≤ 1000000 := by decide
  omega
end DL

/-! ## Rd_K07 -/
namespace K07
open PySem L2 DL

/-- is_whole(value), slots 0 value -/
def rd_is_whole : FS := (sRet (fAnd (fIsi .int (fVar 0)) (fNot (fIsi .bool (fVar 0)))))
/-- is_count(value, most), slots 0 value 1 most -/
def rd_is_count (F_is_whole : FC) : FS := (sRet (fAnd (fCall 1 F_is_whole [] (aCons (fVar 0) aNil)) (fAnd (f2 gGe (fVar 0) (fC (.int 0))) (fOr (f2 gIsN (fVar 1) (fC .non)) (f2 gLe (fVar 0) (fVar 1))))))
/-- is_text(value), slots 0 value 1 sign -/
def rd_is_text : FS := (sRet (fAnd (fIsi .str (fVar 0)) (fCl gAll (aCons (fFrz (oComp (iSeqN 0) (gN 1) tYesD (fChain gLe gLe (fC (.str [97])) (fVar 1) (fC (.str [122]))) [1])) aNil))))
/-- is_rising(things), slots 0 things 1 at -/
def rd_is_rising : FS := (sRet (fCl gAll (aCons (fFrz (oComp (iRange2 (aCons (fC (.int 1)) (aCons (fCl gLen (aCons (fVar 0) aNil)) aNil))) (gN 1) tYesD (f2 gLt (f2 gIx (fVar 0) (f2 gSub (fVar 1) (fC (.int 1)))) (f2 gIx (fVar 0) (fVar 1))) [1])) aNil)))
/-- has(text, period), slots 0 text 1 period -/
def rd_has : FS := (sRet (fAnd (f2 gLt (fVar 1) (fCl gLen (aCons (fVar 0) aNil))) (f2 gEq (fSl (fVar 0) (oSo (fVar 1)) oNo) (fSl (fVar 0) oNo (oSo (f2 gSub (fCl gLen (aCons (fVar 0) aNil)) (fVar 1)))))))
/-- repeats(word, gap), slots 0 word 1 gap 2 period -/
def rd_repeats (F_has : FC) : FS := (sRet (fCl gAny (aCons (fFrz (oComp (iRange2 (aCons (fC (.int 1)) (aCons (fCl gMin (aCons (fVar 1) (aCons (fCl gLen (aCons (fVar 0) aNil)) aNil))) aNil))) (gN 2) tYesD (fCall 2 F_has [] (aCons (fVar 0) (aCons (fVar 2) aNil))) [2])) aNil)))
/-- many_words(signs, length), slots 0 signs 1 length 2 found 3 spin -/
def rd_many_words : FS := (sSeq (sAsg 2 (fC (.int 1))) (sSeq (sFor (iRange1 (aCons (fVar 1) aNil)) (nN 3) (sAug gMulI 2 (fVar 0))) (sRet (fVar 2))))
/-- primitives(signs, length), slots 0 signs 1 length 2 found 3 size 4 late -/
def rd_primitives (F_many_words : FC) : FS := (sSeq (sDct 2) (sSeq (sFor (iRange2 (aCons (fC (.int 1)) (aCons (f2 gAdd3 (fVar 1) (fC (.int 1))) aNil))) (nN 3) (sIf (tVal (f2 gEq (f2 gMod (fVar 1) (fVar 3)) (fC (.int 0)))) (sSetDV 2 (f2 gSub (fCall 2 F_many_words [] (aCons (fVar 0) (aCons (fVar 3) aNil))) (fCl gSum (aCons (fFrz (oComp (iSeqN 2) (gN 4) (tVal (f2 gEq (f2 gMod (fVar 3) (fVar 4)) (fC (.int 0)))) (f2 gIx (fVar 2) (fVar 4)) [4])) aNil))) (fVar 3)) sNext)) (sRetV (f2 gIx (fVar 2) (fVar 1)))))
/-- check_ground(value), slots 0 value -/
def rd_check_ground : FS := (sIf (tNotD (tVal (f1 gIsG (fVar 0)))) sNever sNext)
/-- is_text_of(ground, value), slots 0 ground 1 value 2 sign -/
def rd_is_text_of : FS := (sRet (fAnd (fIsi .str (fVar 1)) (fCl gAll (aCons (fFrz (oComp (iSeqN 1) (gN 2) tYesD (f2 gIn (fVar 2) (f1 gRow (fVar 0))) [2])) aNil))))
/-- is_window_of(ground, value), slots 0 ground 1 value -/
def rd_is_window_of (F_is_text_of : FC) : FS := (sRet (fAnd (fCall 2 F_is_text_of [] (aCons (fVar 0) (aCons (fVar 1) aNil))) (f2 gEq (fCl gLen (aCons (fVar 1) aNil)) (f1 gSpan (fVar 0)))))
/-- check_window(ground, value), slots 0 ground 1 value -/
def rd_check_window (F_is_window_of : FC) : FS := (sIf (tNotD (tTru (fCall 2 F_is_window_of [] (aCons (fVar 0) (aCons (fVar 1) aNil))))) sNever sNext)
/-- words_of(signs, size), slots 0 signs 1 size 2 found 3 spin 4 word 5 sign -/
def rd_words_of : FS := (sSeq (sAsgO 2 (oLst (aCons (fC (.str [])) aNil))) (sSeq (sFor (iRange1 (aCons (fVar 1) aNil)) (nN 3) (sAsgOV 2 (oComp2 (iSeq (fVar 2)) (gN 4) tYesD (iSeq (fVar 0)) (gN 5) tYesD (f2 gAdd3 (fVar 4) (fVar 5)) [4, 5] [5]))) (sRetS 2)))
/-- own_list(ground), slots 0 ground 1 some 2 window -/
def rd_own_list (cv : CV) (F_repeats : FC) (F_words_of : FC) : FS := (sOwn 0 "own" cv (sAsg 1 (fCall 2 F_words_of [] (aCons (f1 gRow (fVar 0)) (aCons (f1 gSpan (fVar 0)) aNil)))) (oComp (iSeqN 1) (gN 2) (tNotD (tTru (fCall 2 F_repeats [] (aCons (fVar 2) (aCons (f1 gLeast (fVar 0)) aNil))))) (fVar 2) [2]))
/-- distances_in(one, other, gap), slots 0 one 1 other 2 gap 3 space -/
def rd_distances_in : FS := (sRetO (oComp (iRange2 (aCons (fC (.int 1)) (aCons (fVar 2) aNil))) (gN 3) (tVal (f2 gEq (fSl (fVar 0) (oSo (fVar 3)) oNo) (fSl (fVar 1) oNo (oSo (f2 gSub (fCl gLen (aCons (fVar 0) aNil)) (fVar 3)))))) (fVar 3) [3]))
/-- is_near(one, other, gap), slots 0 one 1 other 2 gap -/
def rd_is_near (F_distances_in : FC) : FS := (sRet (fOr (f2 gNe (fCall 3 F_distances_in [] (aCons (fVar 0) (aCons (fVar 1) (aCons (fVar 2) aNil)))) (fFrz (oLst aNil))) (f2 gNe (fCall 3 F_distances_in [] (aCons (fVar 1) (aCons (fVar 0) (aCons (fVar 2) aNil)))) (fFrz (oLst aNil)))))
/-- windows(ground), slots 0 ground -/
def rd_windows (F_check_ground : FC) (F_words_of : FC) : FS := (sSeq (sDrop (fCall 1 F_check_ground [] (aCons (fVar 0) aNil))) (sRetO (oCall 2 F_words_of [] (aCons (f1 gRow (fVar 0)) (aCons (f1 gSpan (fVar 0)) aNil)))))
/-- own_windows(ground), slots 0 ground -/
def rd_own_windows (F_check_ground : FC) (F_own_list : FC) : FS := (sSeq (sDrop (fCall 1 F_check_ground [] (aCons (fVar 0) aNil))) (sRetO (oCall 1 F_own_list [] (aCons (fVar 0) aNil))))
/-- is_own(ground, window), slots 0 ground 1 window -/
def rd_is_own (F_check_ground : FC) (F_check_window : FC) (F_repeats : FC) : FS := (sSeq (sDrop (fCall 1 F_check_ground [] (aCons (fVar 0) aNil))) (sSeq (sDrop (fCall 2 F_check_window [] (aCons (fVar 0) (aCons (fVar 1) aNil)))) (sRet (fNot (fCall 2 F_repeats [] (aCons (fVar 1) (aCons (f1 gLeast (fVar 0)) aNil)))))))
/-- count_own(ground), slots 0 ground 1 signs 2 period -/
def rd_count_own (F_many_words : FC) (F_primitives : FC) : FS := (sSeq (sAsg 1 (fCl gLen (aCons (f1 gRow (fVar 0)) aNil))) (sRet (f2 gSub (fCall 2 F_many_words [] (aCons (fVar 1) (aCons (f1 gSpan (fVar 0)) aNil))) (fCl gSum (aCons (fFrz (oComp (iRange2 (aCons (fC (.int 1)) (aCons (f1 gLeast (fVar 0)) aNil))) (gN 2) tYesD (fCall 2 F_primitives [] (aCons (fVar 1) (aCons (fVar 2) aNil))) [2])) aNil)))))
/-- many_own(ground), slots 0 ground -/
def rd_many_own (F_check_ground : FC) (F_count_own : FC) : FS := (sSeq (sDrop (fCall 1 F_check_ground [] (aCons (fVar 0) aNil))) (sRet (fCall 1 F_count_own [] (aCons (fVar 0) aNil))))
/-- near_ones(ground, window), slots 0 ground 1 window 2 late -/
def rd_near_ones (F_check_ground : FC) (F_check_window : FC) (F_is_near : FC) (F_own_list : FC) : FS := (sSeq (sDrop (fCall 1 F_check_ground [] (aCons (fVar 0) aNil))) (sSeq (sDrop (fCall 2 F_check_window [] (aCons (fVar 0) (aCons (fVar 1) aNil)))) (sRetO (oComp (iSeq (fCall 1 F_own_list [] (aCons (fVar 0) aNil))) (gN 2) (tTru (fCall 3 F_is_near [] (aCons (fVar 1) (aCons (fVar 2) (aCons (f1 gLeast (fVar 0)) aNil))))) (fVar 2) [2]))))
/-- next_ones(ground, window), slots 0 ground 1 window 2 sign -/
def rd_next_ones (F_check_ground : FC) (F_check_window : FC) : FS := (sSeq (sDrop (fCall 1 F_check_ground [] (aCons (fVar 0) aNil))) (sSeq (sDrop (fCall 2 F_check_window [] (aCons (fVar 0) (aCons (fVar 1) aNil)))) (sRetO (oComp (iSeq (f1 gRow (fVar 0))) (gN 2) tYesD (f2 gAdd3 (fSl (fVar 1) (oSo (fC (.int 1))) oNo) (fVar 2)) [2]))))
/-- _law_dice(script, at), slots 0 script 1 at 2 seed -/
def rd__law_dice : FS := (sSeq (sAsg 2 (fCl gSum (aCons (fSl (fVar 0) (oSo (fVar 1)) (oSo (f2 gAdd3 (fVar 1) (fC (.int 1))))) aNil))) (sRetO (oLst (aCons (f2 gMod (fCl gInt (aCons (fCl gMax (aCons (f2 gSub (fVar 2) (f2 gPow (fC (.int 10)) (fC (.int 18)))) (aCons (fC (.int 0)) aNil))) aNil)) (f2 gPow (f2 gPow (fC (.int 10)) (fC (.int 60))) (fC (.int 8)))) (aCons (f2 gMod (fCl gInt (aCons (fVar 2) aNil)) (fC (.int 2147483629))) (aCons (fC (.int 0)) (aCons (fVar 1) aNil)))))))
/-- _law_mixed(seed, spin, at), slots 0 seed 1 spin 2 at 3 mixed -/
def rd__law_mixed : FS := (sSeq (sAsg 3 (f2 gAdd3 (f2 gMul (fVar 0) (fC (.int 69069))) (f2 gMul (f2 gMul (fC (.int 104729)) (fVar 1)) (fVar 1)))) (sSeq (sAsg 3 (f2 gMod (fCl gInt (aCons (f2 gAdd3 (f2 gAdd3 (fVar 3) (f2 gMul (fC (.int 7919)) (fVar 2))) (fVar 1)) aNil)) (fC (.int 2147483647)))) (sSeq (sAsg 3 (f2 gMod (fCl gInt (aCons (f2 gAdd3 (f2 gMul (fVar 3) (fVar 3)) (fC (.int 40503))) aNil)) (fC (.int 2147483629)))) (sRet (f2 gMod (fCl gInt (aCons (f2 gMul (fVar 3) (fC (.int 48271))) aNil)) (fC (.int 2147483587)))))))
/-- _law_draw(dice, many), slots 0 dice 1 many 2 found 3 piece 4 drawn -/
def rd__law_draw (F__law_mixed : FC) : FS := (sSeq (sIf (tVal (f2 gGt (fIxB 0 0) (fC (.int 0)))) (sSeq (sAsg 4 (f2 gMod (fCl gInt (aCons (fIxB 0 0) aNil)) (fVar 1))) (sSeq (sSetB 0 0 (f2 gDiv (fIxB 0 0) (fVar 1))) (sRet (fVar 4)))) sNext) (sSeq (sAsg 2 (fC (.int 0))) (sSeq (sFor (iRange1 (aCons (f2 gAdd3 (fC (.int 1)) (f2 gDiv (f1 gBits (fVar 1)) (fC (.int 28)))) aNil)) (nN 3) (sSeq (sSetB 0 2 (f2 gAdd3 (fIxB 0 2) (fC (.int 1)))) (sAsg 2 (f2 gAdd3 (f2 gMul (fVar 2) (fC (.int 2147483587))) (fCall 3 F__law_mixed [] (aCons (fIxB 0 1) (aCons (fIxB 0 2) (aCons (fIxB 0 3) aNil)))))))) (sRet (f2 gMod (fCl gInt (aCons (fVar 2) aNil)) (fVar 1))))))
/-- _law_one_of(dice, some), slots 0 dice 1 some -/
def rd__law_one_of (F__law_draw : FC) : FS := (sRet (f2 gIx (fVar 1) (fCall 2 F__law_draw [] (aCons (fVar 0) (aCons (fCl gLen (aCons (fVar 1) aNil)) aNil)))))
/-- _law_exact(mine, theirs), slots 0 mine 1 theirs 2 is_like 3 a 4 b 5 key -/
def rd__law_exact (F__law_exact : FC) : FS := (sSeq (sIf (tVal (fIsiT [.list, .tuple] (fVar 0))) (sSeq (sAsg 2 (fAnd (f2 gEq (fIsi .list (fVar 1)) (fIsi .list (fVar 0))) (f2 gEq (fIsi .tuple (fVar 1)) (fIsi .tuple (fVar 0))))) (sRet (fAnd (fVar 2) (fAnd (f2 gEq (fCl gLen (aCons (fVar 0) aNil)) (fCl gLen (aCons (fVar 1) aNil))) (fCl gAll (aCons (fFrz (oComp (iZipD (aCons (fVar 0) (aCons (fVar 1) aNil))) (gT 2 (gsCons (gN 3) (gsCons (gN 4) gsNil))) tYesD (fCall 2 F__law_exact [] (aCons (fVar 3) (aCons (fVar 4) aNil))) [3, 4])) aNil)))))) sNext) (sSeq (sIf (tVal (fIsi .dict (fVar 0))) (sSeq (sAsg 2 (fAnd (fIsi .dict (fVar 1)) (fCall 2 F__law_exact [] (aCons (fFrz (oCl oList (aCons (fVar 0) aNil))) (aCons (fFrz (oCl oList (aCons (fVar 1) aNil))) aNil))))) (sRet (fAnd (fVar 2) (fCl gAll (aCons (fFrz (oComp (iSeqN 0) (gN 5) tYesD (fCall 2 F__law_exact [] (aCons (f2 gIx (fVar 0) (fVar 5)) (aCons (f2 gIx (fVar 1) (fVar 5)) aNil))) [5])) aNil))))) sNext) (sSeq (sIf (tOrD (tVal (fIsiT [.list, .tuple, .dict] (fVar 1))) (tVal (f2 gNe (f2 gIsN (fVar 0) (fC .non)) (f2 gIsN (fVar 1) (fC .non))))) (sRet (fC (.bl false))) sNext) (sSeq (sAsg 2 (fAnd (f2 gEq (fIsi .int (fVar 0)) (fIsi .int (fVar 1))) (f2 gEq (fIsi .str (fVar 0)) (fIsi .str (fVar 1))))) (sRet (fAnd (fVar 2) (fAnd (f2 gEq (fIsi .bool (fVar 0)) (fIsi .bool (fVar 1))) (f2 gEq (fVar 0) (fVar 1)))))))))
/-- _law_dices(script, few), slots 0 script 1 few 2 at -/
def rd__law_dices (F__law_dice : FC) : FS := (sRetO (oComp (iRange1 (aCons (fCl gMax (aCons (fC (.int 1)) (aCons (fCl gMin (aCons (fVar 1) (aCons (fCl gLen (aCons (fVar 0) aNil)) aNil))) aNil))) aNil)) (gN 2) tYesD (fCall 2 F__law_dice [] (aCons (fVar 0) (aCons (fVar 2) aNil))) [2]))
/-- _law_letters(dice, many), slots 0 dice 1 many 2 found 3 spin 4 late 5 sign -/
def rd__law_letters (F__law_draw : FC) : FS := (sSeq (sAsgO 2 (oLst aNil)) (sSeq (sFor (iRange1 (aCons (fVar 1) aNil)) (nN 3) (sSeq (sAsg 4 (f2 gIx (fC (.str [97, 98, 99, 100, 101, 102, 103, 104, 105, 106, 107, 108, 109, 110, 111, 112, 113, 114, 115, 116, 117, 118, 119, 120, 121, 122])) (fCall 2 F__law_draw [] (aCons (fVar 0) (aCons (fC (.int 26)) aNil))))) (sAppV 2 (fIf (tVal (f2 gNotIn (fVar 4) (fVar 2))) (fVar 4) (f2 gIx (fFrz (oComp (iSeq (fFrz (oCl oList (aCons (fC (.str [97, 98, 99, 100, 101, 102, 103, 104, 105, 106, 107, 108, 109, 110, 111, 112, 113, 114, 115, 116, 117, 118, 119, 120, 121, 122])) aNil)))) (gN 5) (tVal (f2 gNotIn (fVar 5) (fVar 2))) (fVar 5) [5])) (fC (.int 0))))))) (sRetV (fM1 gJoin (fC (.str [])) (fFrz (oCl oSorted (aCons (fVar 2) aNil)))))))
/-- _law_ground(dice, most), slots 0 dice 1 most 2 some 3 many 4 signs 5 gap 6 at -/
def rd__law_ground (F__law_draw : FC) (F__law_letters : FC) (F__law_one_of : FC) : FS := (sSeq (sAsg 2 (fFrz (oLst (aCons (fTup (aCons (fC (.int 2)) (aCons (fC (.int 2)) aNil))) (aCons (fTup (aCons (fC (.int 3)) (aCons (fC (.int 2)) aNil))) (aCons (fTup (aCons (fC (.int 2)) (aCons (fC (.int 3)) aNil))) (aCons (fTup (aCons (fC (.int 4)) (aCons (fC (.int 2)) aNil))) (aCons (fTup (aCons (fC (.int 5)) (aCons (fC (.int 2)) aNil))) (aCons (fTup (aCons (fC (.int 2)) (aCons (fC (.int 4)) aNil))) (aCons (fTup (aCons (fC (.int 3)) (aCons (fC (.int 3)) aNil))) aNil)))))))))) (sSeq (sAsg 3 (fFrz (oLst (aCons (fC (.int 2)) (aCons (fC (.int 6)) (aCons (fC (.int 12)) (aCons (fC (.int 12)) (aCons (fC (.int 20)) (aCons (fC (.int 54)) (aCons (fC (.int 72)) aNil)))))))))) (sSeq (sUnp (nT 2 (nsCons (nN 4) (nsCons (nN 5) nsNil))) (fCall 2 F__law_one_of [] (aCons (fVar 0) (aCons (fFrz (oComp (iRange1 (aCons (fC (.int 7)) aNil)) (gN 6) (tVal (f2 gLe (f2 gIx (fVar 3) (fVar 6)) (fVar 1))) (f2 gIx (fVar 2) (fVar 6)) [6])) aNil)))) (sRet (fTup (aCons (fIf (tVal (f2 gEq (fCall 2 F__law_draw [] (aCons (fVar 0) (aCons (fC (.int 2)) aNil))) (fC (.int 0)))) (fCall 2 F__law_letters [] (aCons (fVar 0) (aCons (fVar 4) aNil))) (fSl (fC (.str [97, 98, 99, 100, 101, 102, 103, 104])) oNo (oSo (fVar 4)))) (aCons (fVar 5) aNil)))))))
/-- _law_repeats(word, gap), slots 0 word 1 gap 2 period -/
def rd__law_repeats : FS := (sRet (fCl gAny (aCons (fFrz (oComp (iRange2 (aCons (fC (.int 1)) (aCons (fCl gMin (aCons (fVar 1) (aCons (fCl gLen (aCons (fVar 0) aNil)) aNil))) aNil))) (gN 2) tYesD (f2 gEq (fSl (fVar 0) (oSo (fVar 2)) oNo) (fSl (fVar 0) oNo (oSo (f2 gSub (fCl gLen (aCons (fVar 0) aNil)) (fVar 2))))) [2])) aNil)))
/-- _law_words_of(signs, size), slots 0 signs 1 size 2 found 3 spin 4 longer 5 word 6 sign -/
def rd__law_words_of : FS := (sSeq (sAsg 2 (fFrz (oLst (aCons (fC (.str [])) aNil)))) (sSeq (sFor (iRange1 (aCons (fVar 1) aNil)) (nN 3) (sSeq (sAsg 4 (fFrz (oLst aNil))) (sSeq (sFor (iSeqN 2) (nN 5) (sAsg 4 (f2 gAdd3 (fVar 4) (fFrz (oComp (iSeq (fFrz (oCl oList (aCons (fVar 0) aNil)))) (gN 6) tYesD (f2 gAdd3 (fVar 5) (fVar 6)) [6]))))) (sAsg 2 (fVar 4))))) (sRet (fVar 2))))
/-- _law_own(ground), slots 0 ground 1 word -/
def rd__law_own (F__law_repeats : FC) (F__law_words_of : FC) : FS := (sRetO (oComp (iSeq (fCall 2 F__law_words_of [] (aCons (f2 gIx (fVar 0) (fC (.int 0))) (aCons (f2 gSub (f2 gMul (fC (.int 2)) (f2 gIx (fVar 0) (fC (.int 1)))) (fC (.int 2))) aNil)))) (gN 1) (tNotD (tTru (fCall 2 F__law_repeats [] (aCons (fVar 1) (aCons (f2 gIx (fVar 0) (fC (.int 1))) aNil))))) (fVar 1) [1]))
/-- _law_behind_at(one, other, gap), slots 0 one 1 other 2 gap 3 space -/
def rd__law_behind_at : FS := (sRetO (oComp (iRange2 (aCons (fC (.int 1)) (aCons (fVar 2) aNil))) (gN 3) (tVal (f2 gEq (fSl (fVar 0) (oSo (fVar 3)) oNo) (fSl (fVar 1) oNo (oSo (f2 gSub (fCl gLen (aCons (fVar 0) aNil)) (fVar 3)))))) (fVar 3) [3]))
/-- _law_near(one, other, gap), slots 0 one 1 other 2 gap -/
def rd__law_near (F__law_behind_at : FC) : FS := (sRet (fOr (f2 gNe (fCall 3 F__law_behind_at [] (aCons (fVar 0) (aCons (fVar 1) (aCons (fVar 2) aNil)))) (fFrz (oLst aNil))) (f2 gNe (fCall 3 F__law_behind_at [] (aCons (fVar 1) (aCons (fVar 0) (aCons (fVar 2) aNil)))) (fFrz (oLst aNil)))))
/-- _law_made(ground), slots 0 ground -/
def rd__law_made : FS := (sRet (fCl gMkG (aCons (f2 gIx (fVar 0) (fC (.int 0))) (aCons (f2 gIx (fVar 0) (fC (.int 1))) aNil))))
/-- _law_power(base, many), slots 0 base 1 many 2 found 3 spin -/
def rd__law_power : FS := (sSeq (sAsg 2 (fC (.int 1))) (sSeq (sFor (iRange1 (aCons (fVar 1) aNil)) (nN 3) (sAsg 2 (f2 gMul (fVar 2) (fVar 0)))) (sRet (fVar 2))))
/-- _law_great_ground(dice, most), slots 0 dice 1 most -/
def rd__law_great_ground (F__law_draw : FC) (F__law_letters : FC) : FS := (sRet (fTup (aCons (fCall 2 F__law_letters [] (aCons (fVar 0) (aCons (f2 gAdd3 (fC (.int 2)) (fCall 2 F__law_draw [] (aCons (fVar 0) (aCons (fC (.int 5)) aNil)))) aNil))) (aCons (f2 gAdd3 (fC (.int 2)) (fCall 2 F__law_draw [] (aCons (fVar 0) (aCons (f2 gSub (fVar 1) (fC (.int 1))) aNil)))) aNil))))
/-- _law_great_window(dice, ground), slots 0 dice 1 ground 2 size 3 signs 4 word 5 window 6 at 7 spin -/
def rd__law_great_window (F__law_draw : FC) (F__law_one_of : FC) : FS := (sSeq (sPar [2, 3] (xCons (xV (f2 gSub (f2 gMul (fC (.int 2)) (f2 gIx (fVar 1) (fC (.int 1)))) (fC (.int 2)))) (xCons (xV (fFrz (oCl oList (aCons (f2 gIx (fVar 1) (fC (.int 0))) aNil)))) xNil))) (sSeq (sAsg 4 (fM1 gJoin (fC (.str [])) (fFrz (oComp (iRange1 (aCons (f2 gAdd3 (fC (.int 1)) (fCall 2 F__law_draw [] (aCons (fVar 0) (aCons (f2 gAdd3 (f2 gIx (fVar 1) (fC (.int 1))) (fC (.int 1))) aNil)))) aNil)) (gN 7) tYesD (fCall 2 F__law_one_of [] (aCons (fVar 0) (aCons (fVar 3) aNil))) [7])))) (sSeq (sPar [5, 6] (xCons (xV (fSl (f2 gMul (fVar 4) (fVar 2)) oNo (oSo (fVar 2)))) (xCons (xV (fCall 2 F__law_draw [] (aCons (fVar 0) (aCons (fVar 2) aNil)))) xNil))) (sRet (fIf (tVal (f2 gEq (fCall 2 F__law_draw [] (aCons (fVar 0) (aCons (fC (.int 2)) aNil))) (fC (.int 0)))) (fVar 5) (f2 gAdd3 (f2 gAdd3 (fSl (fVar 5) oNo (oSo (fVar 6))) (fCall 2 F__law_one_of [] (aCons (fVar 0) (aCons (fVar 3) aNil)))) (fSl (fVar 5) (oSo (f2 gAdd3 (fVar 6) (fC (.int 1)))) oNo)))))))
/-- _law_many_ground(dice), slots 0 dice -/
def rd__law_many_ground (F__law_draw : FC) (F__law_letters : FC) : FS := (sRet (fIf (tVal (f2 gEq (fCall 2 F__law_draw [] (aCons (fVar 0) (aCons (fC (.int 2)) aNil))) (fC (.int 0)))) (fTup (aCons (fCall 2 F__law_letters [] (aCons (fVar 0) (aCons (fC (.int 10)) aNil))) (aCons (fC (.int 2)) aNil))) (fTup (aCons (fCall 2 F__law_letters [] (aCons (fVar 0) (aCons (fC (.int 2)) aNil))) (aCons (fC (.int 5)) aNil)))))
/-- _law_primitives(signs, most), slots 0 signs 1 most 2 found 3 size 4 late -/
def rd__law_primitives (F__law_power : FC) : FS := (sSeq (sDct 2) (sSeq (sFor (iRange2 (aCons (fC (.int 1)) (aCons (f2 gAdd3 (fVar 1) (fC (.int 1))) aNil))) (nN 3) (sSetDV 2 (f2 gSub (fCall 2 F__law_power [] (aCons (fVar 0) (aCons (fVar 3) aNil))) (fCl gSum (aCons (fFrz (oComp (iSeqN 2) (gN 4) (tVal (f2 gEq (f2 gMod (fCl gInt (aCons (fVar 3) aNil)) (fVar 4)) (fC (.int 0)))) (f2 gIx (fVar 2) (fVar 4)) [4])) aNil))) (fVar 3))) (sRetV (fCl gSum (aCons (fFrz (oComp (iSeqN 2) (gN 3) tYesD (f2 gIx (fVar 2) (fVar 3)) [3])) aNil)))))
/-- _law_great_right(dice), slots 0 dice 1 signs 2 gap 3 many 4 due -/
def rd__law_great_right (F__law_draw : FC) (F__law_exact : FC) (F__law_letters : FC) (F__law_made : FC) (F__law_power : FC) (F__law_primitives : FC) (F_many_own : FC) : FS := (sSeq (sPar [1, 2] (xCons (xV (fCall 2 F__law_letters [] (aCons (fVar 0) (aCons (f2 gAdd3 (fC (.int 2)) (fCall 2 F__law_draw [] (aCons (fVar 0) (aCons (fC (.int 25)) aNil)))) aNil)))) (xCons (xV (f2 gAdd3 (fC (.int 2)) (fCall 2 F__law_draw [] (aCons (fVar 0) (aCons (fC (.int 59)) aNil))))) xNil))) (sSeq (sAsg 3 (fCl gLen (aCons (fVar 1) aNil))) (sSeq (sAsg 4 (f2 gSub (fCall 2 F__law_power [] (aCons (fVar 3) (aCons (f2 gSub (f2 gMul (fC (.int 2)) (fVar 2)) (fC (.int 2))) aNil))) (fCall 2 F__law_primitives [] (aCons (fVar 3) (aCons (f2 gSub (fVar 2) (fC (.int 1))) aNil))))) (sRet (fCall 2 F__law_exact [] (aCons (fCall 1 F_many_own [] (aCons (fCall 1 F__law_made [] (aCons (fTup (aCons (fVar 1) (aCons (fVar 2) aNil))) aNil)) aNil)) (aCons (fVar 4) aNil)))))))
/-- _law_ground_right(ground), slots 0 ground 1 made 2 every 3 own 4 spin 5 window 6 told 7 some 8 near -/
def rd__law_ground_right (F__law_exact : FC) (F__law_made : FC) (F__law_near : FC) (F__law_own : FC) (F__law_words_of : FC) (F_is_own : FC) (F_many_own : FC) (F_near_ones : FC) (F_own_windows : FC) (F_windows : FC) : FS := (sSeq (sPar [1, 2] (xCons (xV (fCall 1 F__law_made [] (aCons (fVar 0) aNil))) (xCons (xV (fCall 2 F__law_words_of [] (aCons (f2 gIx (fVar 0) (fC (.int 0))) (aCons (f2 gSub (f2 gMul (fC (.int 2)) (f2 gIx (fVar 0) (fC (.int 1)))) (fC (.int 2))) aNil)))) xNil))) (sSeq (sAsg 3 (fCall 1 F__law_own [] (aCons (fVar 0) aNil))) (sSeq (sIf (tNotD (tTru (fCall 2 F__law_exact [] (aCons (fFrz (oLst (aCons (fCall 1 F_own_windows [] (aCons (fCall 1 F__law_made [] (aCons (fVar 0) aNil)) aNil)) (aCons (fCall 1 F_many_own [] (aCons (fCall 1 F__law_made [] (aCons (fVar 0) aNil)) aNil)) (aCons (fCall 2 F_is_own [] (aCons (fCall 1 F__law_made [] (aCons (fVar 0) aNil)) (aCons (f2 gIx (fVar 3) (f1 gNeg (fC (.int 1)))) aNil))) aNil))))) (aCons (fFrz (oLst (aCons (fVar 3) (aCons (fCl gLen (aCons (fVar 3) aNil)) (aCons (fC (.bl true)) aNil))))) aNil))))) (sRet (fC (.bl false))) sNext) (sSeq (sFor (iRange1 (aCons (fC (.int 2)) aNil)) (nN 4) (sSeq (sPar [6, 7] (xCons (xO (oCall 1 F_windows [] (aCons (fVar 1) aNil))) (xCons (xO (oCall 1 F_own_windows [] (aCons (fVar 1) aNil))) xNil))) (sSeq (sIf (tNotD (tTru (fCall 2 F__law_exact [] (aCons (fFrz (oLst (aCons (fVar 6) (aCons (fVar 7) (aCons (fCall 1 F_many_own [] (aCons (fVar 1) aNil)) aNil))))) (aCons (fFrz (oLst (aCons (fVar 2) (aCons (fVar 3) (aCons (fCl gLen (aCons (fVar 3) aNil)) aNil))))) aNil))))) (sRet (fC (.bl false))) sNext) (sSeq (sApp 6 (fC (.str [109, 111, 114, 101]))) (sApp 7 (fC (.str [109, 111, 114, 101]))))))) (sSeq (sFor (iSeq (f2 gAdd3 (fSl (fVar 2) oNo (oSo (fC (.int 90)))) (fSl (fVar 2) (oSo (f1 gNeg (fC (.int 90)))) oNo))) (nN 5) (sIf (tNotD (tTru (fCall 2 F__law_exact [] (aCons (fCall 2 F_is_own [] (aCons (fVar 1) (aCons (fVar 5) aNil))) (aCons (f2 gIn (fVar 5) (fVar 3)) aNil))))) (sRet (fC (.bl false))) sNext)) (sSeq (sPar [6, 7] (xCons (xO (oCall 1 F_windows [] (aCons (fVar 1) aNil))) (xCons (xO (oCall 1 F_own_windows [] (aCons (fVar 1) aNil))) xNil))) (sSeq (sAsg 8 (fCall 2 F_near_ones [] (aCons (fVar 1) (aCons (f2 gIx (fVar 2) (f1 gNeg (fC (.int 1)))) aNil)))) (sSeq (sIf (tNotD (tTru (fCall 2 F__law_exact [] (aCons (fFrz (oLst (aCons (fVar 6) (aCons (fVar 7) (aCons (fVar 8) aNil))))) (aCons (fFrz (oLst (aCons (fVar 2) (aCons (fVar 3) (aCons (fFrz (oComp (iSeqN 3) (gN 5) (tTru (fCall 3 F__law_near [] (aCons (f2 gIx (fVar 2) (f1 gNeg (fC (.int 1)))) (aCons (fVar 5) (aCons (f2 gIx (fVar 0) (fC (.int 1))) aNil))))) (fVar 5) [5])) aNil))))) aNil))))) (sRet (fC (.bl false))) sNext) (sRet (fNot (fCl gAny (aCons (fFrz (oComp (iSeqN 3) (gN 5) tYesD (fCall 3 F__law_near [] (aCons (fVar 5) (aCons (fVar 5) (aCons (f2 gIx (fVar 0) (fC (.int 1))) aNil)))) [5])) aNil))))))))))))
/-- _law_far_right(dice), slots 0 dice 1 ground 2 made 3 spin 4 window 5 sign -/
def rd__law_far_right (F__law_exact : FC) (F__law_great_ground : FC) (F__law_great_window : FC) (F__law_made : FC) (F__law_repeats : FC) (F_is_own : FC) (F_next_ones : FC) : FS := (sSeq (sAsg 1 (fCall 2 F__law_great_ground [] (aCons (fVar 0) (aCons (fC (.int 60)) aNil)))) (sSeq (sAsg 2 (fCall 1 F__law_made [] (aCons (fVar 1) aNil))) (sSeq (sFor (iRange1 (aCons (fC (.int 4)) aNil)) (nN 3) (sSeq (sAsg 4 (fCall 2 F__law_great_window [] (aCons (fVar 0) (aCons (fVar 1) aNil)))) (sSeq (sIf (tNotD (tTru (fCall 2 F__law_exact [] (aCons (fCall 2 F_is_own [] (aCons (fVar 2) (aCons (fVar 4) aNil))) (aCons (fNot (fCall 2 F__law_repeats [] (aCons (fVar 4) (aCons (f2 gIx (fVar 1) (fC (.int 1))) aNil)))) aNil))))) (sRet (fC (.bl false))) sNext) (sIf (tNotD (tTru (fCall 2 F__law_exact [] (aCons (fCall 2 F_next_ones [] (aCons (fVar 2) (aCons (fVar 4) aNil))) (aCons (fFrz (oComp (iSeq (fFrz (oCl oList (aCons (f2 gIx (fVar 1) (fC (.int 0))) aNil)))) (gN 5) tYesD (f2 gAdd3 (fSl (fVar 4) (oSo (fC (.int 1))) oNo) (fVar 5)) [5])) aNil))))) (sRet (fC (.bl false))) sNext)))) (sRet (fC (.bl true))))))
/-- law(script), slots 0 script 1 dice 2 told 3 far 4 window 5 late -/
def rd_law (F__law_dices : FC) (F__law_draw : FC) (F__law_exact : FC) (F__law_far_right : FC) (F__law_great_right : FC) (F__law_great_window : FC) (F__law_ground : FC) (F__law_ground_right : FC) (F__law_letters : FC) (F__law_made : FC) (F__law_many_ground : FC) (F__law_near : FC) (F__law_own : FC) (F_many_own : FC) (F_near_ones : FC) : FS := (sSeq (sFor (iSeq (fCall 2 F__law_dices [] (aCons (fVar 0) (aCons (fC (.int 1)) aNil)))) (nN 1) (sSeq (sIf (tAndD (tVal (f2 gEq (fCall 2 F__law_draw [] (aCons (fVar 1) (aCons (fC (.int 8)) aNil))) (fC (.int 0)))) (tNotD (tTru (fCall 1 F__law_ground_right [] (aCons (fCall 1 F__law_many_ground [] (aCons (fVar 1) aNil)) aNil))))) (sRet (fC (.bl false))) sNext) (sSeq (sIf (tVal (f2 gEq (fCall 2 F__law_draw [] (aCons (fVar 1) (aCons (fC (.int 8)) aNil))) (fC (.int 0)))) (sSeq (sAsg 3 (fTup (aCons (fCall 2 F__law_letters [] (aCons (fVar 1) (aCons (fC (.int 2)) aNil))) (aCons (fC (.int 6)) aNil)))) (sSeq (sAsg 4 (fCall 2 F__law_great_window [] (aCons (fVar 1) (aCons (fVar 3) aNil)))) (sIf (tNotD (tTru (fCall 2 F__law_exact [] (aCons (fCall 2 F_near_ones [] (aCons (fCall 1 F__law_made [] (aCons (fVar 3) aNil)) (aCons (fVar 4) aNil))) (aCons (fFrz (oComp (iSeq (fCall 1 F__law_own [] (aCons (fVar 3) aNil))) (gN 5) (tTru (fCall 3 F__law_near [] (aCons (fVar 4) (aCons (fVar 5) (aCons (fC (.int 6)) aNil))))) (fVar 5) [5])) aNil))))) (sRet (fC (.bl false))) sNext))) sNext) (sIf (tOrD (tNotD (tTru (fCall 1 F__law_ground_right [] (aCons (fCall 2 F__law_ground [] (aCons (fVar 1) (aCons (fC (.int 80)) aNil))) aNil)))) (tOrD (tNotD (tTru (fCall 1 F__law_great_right [] (aCons (fVar 1) aNil)))) (tOrD (tNotD (tTru (fCall 1 F__law_far_right [] (aCons (fVar 1) aNil)))) (tNotD (tTru (fCall 1 F__law_far_right [] (aCons (fVar 1) aNil))))))) (sRet (fC (.bl false))) sNext)))) (sSeq (sAsg 2 (fFrz (oLst (aCons (fCall 1 F_many_own [] (aCons (fCall 1 F__law_made [] (aCons (fTup (aCons (fC (.str [97, 98])) (aCons (fC (.int 2)) aNil))) aNil)) aNil)) (aCons (fCall 1 F_many_own [] (aCons (fCall 1 F__law_made [] (aCons (fTup (aCons (fC (.str [97, 98, 99])) (aCons (fC (.int 3)) aNil))) aNil)) aNil)) (aCons (fCall 1 F_many_own [] (aCons (fCall 1 F__law_made [] (aCons (fTup (aCons (fC (.str [97, 98])) (aCons (fC (.int 4)) aNil))) aNil)) aNil)) (aCons (fCall 1 F_many_own [] (aCons (fCall 1 F__law_made [] (aCons (fTup (aCons (fC (.str [97, 98, 99, 100, 101, 102, 103, 104, 105])) (aCons (fC (.int 2)) aNil))) aNil)) aNil)) aNil))))))) (sRet (fCall 2 F__law_exact [] (aCons (fVar 2) (aCons (fFrz (oLst (aCons (fC (.int 2)) (aCons (fC (.int 72)) (aCons (fC (.int 54)) (aCons (fC (.int 72)) aNil)))))) aNil))))))
def rd_init1 (F_is_count : FC) (F_is_rising : FC) (F_is_text : FC) : FT := (tOrD (tNotD (tTru (fCall 1 F_is_text [] (aCons (fVar 1) aNil)))) (tOrD (tVal (f2 gLt (fCl gLen (aCons (fVar 1) aNil)) (fC (.int 2)))) (tNotD (tTru (fCall 1 F_is_rising [] (aCons (fVar 1) aNil))))))
def rd_init2 (F_is_count : FC) (F_is_rising : FC) (F_is_text : FC) : FT := (tOrD (tNotD (tTru (fCall 2 F_is_count [.non] (aCons (fVar 2) aNil)))) (tVal (f2 gLt (fVar 2) (fC (.int 2)))))
end K07

/-! ## MathA_K07 -/
namespace K07
open PySem L2 DL
abbrev psi := K04.psi
abbrev F_many_words : FC := K04.F_many_words
abbrev F__law_power : FC := K04.F_many_words
abbrev F_primitives : FC := K04.F_primitives
theorem law_many_words : ∀ ds n Q, F_many_words ds n Q → ds.length = 2 → rd_many_words { nx := fun _ m => Q (.val .non) m, rt := Q } (startE 2 ds) n := K04.law_many_words
theorem law__law_power : ∀ ds n Q, F__law_power ds n Q → ds.length = 2 → rd__law_power { nx := fun _ m => Q (.val .non) m, rt := Q } (startE 2 ds) n := K04.law__law_power
theorem law_primitives : ∀ ds n Q, F_primitives ds n Q → ds.length = 2 → rd_primitives F_many_words { nx := fun _ m => Q (.val .non) m, rt := Q } (startE 3 ds) n := K04.law_primitives
/-! ### words, as new lists -/
def F_words_of : FC := fun ds n Q => ∃ (S : List Nat) (k : Nat), ds = [.str S, .int k] ∧ S ≠ [] ∧ S.length ^ k ≤ 1000000 ∧ k ≤ 10000 ∧ Q (.own ((DL.wordsOf S k).map D.str)) n
theorem law_words_of : ∀ ds n Q, F_words_of ds n Q → ds.length = 2 → rd_words_of { nx := fun _ m => Q (.val .non) m, rt := Q } (startE 4 ds) n := by
  rintro ds n Q ⟨S, k, rfl, hS0, hS, hk, h⟩ _
  have hb : ∀ j ≤ k, (DL.wordsOf S j).length ≤ 1000000 := fun j hj => wordsOf_le hS0 hS hj
  simp [sSeq, rd_words_of]
  refine ⟨by rw [PySem.sizeLine_eq]; decide, by omega, ?_⟩
  rw [ups_eq]
  refine forD_inv (fun pre env m => (∃ x3, env = [some (.val (.str S)), some (.val (.int k)), some (.own ((DL.wordsOf S pre.length).map D.str)), x3, none, none]) ∧ m = n) ?_ ?_ ⟨⟨none, rfl⟩, rfl⟩
  · rintro pre a post env m next hx ⟨⟨x3, rfl⟩, rfl⟩ hn
    have hr := range_pre hx
    have h1 := hb (pre.length + 1) (by omega)
    have h2 := hb pre.length (by omega)
    rw [wordsOf_len] at h1
    simp
    refine go2_map (fun (w : List Nat) (c : Nat) => D.str (w ++ [c])) S ?_ (fun w hw j m' K hj hK => ?_) ?_
    · rw [Nat.zero_add, wordsOf_len, ← Nat.pow_succ, Nat.succ_eq_add_one]; omega
    · have hwl := (wordsOf_mem hw).1
      simp
      refine ⟨by omega, ?_⟩
      refine goD_map (fun c : Nat => D.str (w ++ [c])) (fun c hc j K2 hK2 => ?_) hK
      simp [stepD]
      exact ⟨by omega, hK2⟩
    · refine ⟨by simp; rintro x w _ c _ rfl; rfl, hn _ _ ⟨⟨some (.val (.int (a : Nat))), ?_⟩, rfl⟩⟩
      rw [List.length_append]
      simp [DL.wordsOf, List.map_flatMap, Function.comp_def]
  · rintro env m ⟨⟨x3, rfl⟩, rfl⟩
    simpa using h
/-! ### the program's defs -/
def F_own_list : FC := DL.F_own_list
theorem law_own_list : ∀ ds n Q, F_own_list ds n Q → ds.length = 1 → rd_own_list cv0 F_repeats F_words_of { nx := fun _ m => Q (.val .non) m, rt := Q } (startE 2 ds) n := by
  rintro ds n Q ⟨s, g, rfl, hw, h⟩ _
  have h2 := hw.ok.gap
  have h3 := hw.gap
  have e : 2 * (g : Int) - 2 = ((2 * g - 2 : Nat) : Int) := by omega
  simp [rd_own_list]
  refine ⟨s, g, ⟨rfl, rfl⟩, ownW s g, rfl, h, ?_⟩
  rw [e]
  refine ⟨s, _, rfl, hw.ne, hw.few, by omega, ?_⟩
  simp
  refine goD_filter (fun w => !reps w g) (fun w => D.str w) (fun w hw' m K hT hF => ?_) ?_
  · have hl := (wordsOf_mem hw').1
    simp [stepD]
    refine ⟨w, _, rfl, by omega, ?_⟩
    cases e : reps w g with
    | true => simpa using hF (by rw [e]; rfl)
    | false => simpa using hT (by rw [e]; rfl)
  · exact ⟨rfl, h⟩
def F_windows : FC := fun ds n Q => ∃ s g, ds = [gnd s g] ∧ Few s g ∧ Q (.own ((DL.wordsOf s (2 * g - 2)).map D.str)) n
theorem law_windows : ∀ ds n Q, F_windows ds n Q → ds.length = 1 → rd_windows F_check_ground F_words_of { nx := fun _ m => Q (.val .non) m, rt := Q } (startE 0 ds) n := by
  rintro ds n Q ⟨s, g, rfl, hw, h⟩ _
  have h2 := hw.ok.gap
  have h3 := hw.gap
  unfold rd_windows
  refine sSeq_of fun next0 hn0 => ?_
  simp
  refine ⟨s, g, rfl, hn0 _ _ ?_⟩
  simp
  have e : 2 * (g : Int) - 2 = ((2 * g - 2 : Nat) : Int) := by omega
  rw [e]
  exact ⟨s, _, rfl, hw.ne, hw.few, by omega, _, rfl, h⟩
def F_own_windows : FC := fun ds n Q => ∃ s g, ds = [gnd s g] ∧ Few s g ∧ Q (.own ((ownW s g).map D.str)) n
theorem law_own_windows : ∀ ds n Q, F_own_windows ds n Q → ds.length = 1 → rd_own_windows F_check_ground F_own_list { nx := fun _ m => Q (.val .non) m, rt := Q } (startE 0 ds) n := by
  rintro ds n Q ⟨s, g, rfl, hw, h⟩ _
  unfold rd_own_windows
  refine sSeq_of fun next0 hn0 => ?_
  simp
  refine ⟨s, g, rfl, hn0 _ _ ?_⟩
  simp
  exact ⟨s, g, rfl, hw, _, rfl, h⟩
def F_is_own : FC := fun ds n Q => ∃ s g w, ds = [gnd s g, .str w] ∧ 2 ≤ g ∧ g ≤ 1000 ∧ Wnd s g w ∧ Q (.val (.bl (!reps w g))) n
theorem law_is_own : ∀ ds n Q, F_is_own ds n Q → ds.length = 2 → rd_is_own F_check_ground F_check_window F_repeats { nx := fun _ m => Q (.val .non) m, rt := Q } (startE 0 ds) n := by
  rintro ds n Q ⟨s, g, w, rfl, hg, hg2, hw, h⟩ _
  have hl := hw.len
  unfold rd_is_own
  refine sSeq_of fun next0 hn0 => ?_
  simp
  refine ⟨s, g, rfl, hn0 _ _ ?_⟩
  refine sSeq_of fun next1 hn1 => ?_
  simp
  refine ⟨s, g, w, rfl, by omega, hw, hn1 _ _ ?_⟩
  simp
  refine ⟨w, g, rfl, by omega, ?_⟩
  simpa using h
/-- how many own windows, by numbers -/
def cntF (k g : Nat) : Int := (k : Int) ^ (2 * g - 2) - ((upto g).map (psi k)).sum
def F_count_own : FC := fun ds n Q => ∃ s g, ds = [gnd s g] ∧ s.length ≤ 1000 ∧ 2 ≤ g ∧ g ≤ 100 ∧ Q (.val (.int (cntF s.length g))) n
theorem law_count_own : ∀ ds n Q, F_count_own ds n Q → ds.length = 1 → rd_count_own F_many_words F_primitives { nx := fun _ m => Q (.val .non) m, rt := Q } (startE 2 ds) n := by
  rintro ds n Q ⟨s, g, rfl, hs, hg, hg2, h⟩ _
  have hs2 : s.length < 2 ^ 100 := Nat.lt_of_le_of_lt hs (by decide)
  unfold rd_count_own
  refine sSeq_of fun next0 hn0 => ?_
  simp
  refine hn0 _ _ ?_
  simp
  have e : 2 * (g : Int) - 2 = ((2 * g - 2 : Nat) : Int) := by omega
  rw [e]
  refine ⟨s.length, _, rfl, hs2, by omega, ?_⟩
  simp
  refine ⟨by omega, ?_⟩
  rw [ups_upto']
  refine goD_map (fun p : Nat => D.int (psi s.length p)) (fun p hp m K hK => ?_) ?_
  · have hp2 := mem_upto.mp hp
    simp [stepD]
    refine ⟨s.length, p, rfl, hs2, by omega, by omega, ?_⟩
    simpa using hK
  refine ⟨(upto g).map (psi s.length), by rw [List.map_map]; rfl, h⟩
def F_many_own : FC := F_count_own
theorem law_many_own : ∀ ds n Q, F_many_own ds n Q → ds.length = 1 → rd_many_own F_check_ground F_count_own { nx := fun _ m => Q (.val .non) m, rt := Q } (startE 0 ds) n := by
  rintro ds n Q ⟨s, g, rfl, hs, hg, hg2, h⟩ _
  unfold rd_many_own
  refine sSeq_of fun next0 hn0 => ?_
  simp
  refine ⟨s, g, rfl, hn0 _ _ ?_⟩
  simp
  exact ⟨s, g, rfl, hs, hg, hg2, h⟩
def F_near_ones : FC := DL.F_near_ones
theorem law_near_ones : ∀ ds n Q, F_near_ones ds n Q → ds.length = 2 → rd_near_ones F_check_ground F_check_window F_is_near F_own_list { nx := fun _ m => Q (.val .non) m, rt := Q } (startE 1 ds) n := DL.law_near_ones
def F_next_ones : FC := fun ds n Q => ∃ s g w, ds = [gnd s g, .str w] ∧ 2 ≤ g ∧ g ≤ 1000 ∧ Wnd s g w ∧ Q (.own (s.map fun c => D.str (w.drop 1 ++ [c]))) n
theorem law_next_ones : ∀ ds n Q, F_next_ones ds n Q → ds.length = 2 → rd_next_ones F_check_ground F_check_window { nx := fun _ m => Q (.val .non) m, rt := Q } (startE 1 ds) n := by
  rintro ds n Q ⟨s, g, w, rfl, hg, hg2, hw, h⟩ _
  have hl := hw.len
  unfold rd_next_ones
  refine sSeq_of fun next0 hn0 => ?_
  simp
  refine ⟨s, g, rfl, hn0 _ _ ?_⟩
  refine sSeq_of fun next1 hn1 => ?_
  simp
  refine ⟨s, g, w, rfl, by omega, hw, hn1 _ _ ?_⟩
  simp
  refine goD_map (fun c : Nat => D.str (w.drop 1 ++ [c])) (fun c hc m K hK => ?_) h
  have : (w.drop 1).length ≤ w.length := by rw [List.length_drop]; omega
  simp [stepD]
  rw [cutL_tail]
  exact ⟨by omega, hK⟩
end K07

/-! ## MathB_K07 -/
namespace K07
open PySem L2 DL
/-! ### how many own windows: by names changed, and by counting for few grounds -/
theorem map_inj_on {f : Nat → Nat} {S : List Nat} (hf : ∀ a ∈ S, ∀ b ∈ S, f a = f b → a = b) : ∀ {u v : List Nat}, (∀ c ∈ u, c ∈ S) → (∀ c ∈ v, c ∈ S) → (u.map f = v.map f ↔ u = v)
  | [], [], _, _ => by simp
  | [], _ :: _, _, _ => by simp
  | _ :: _, [], _, _ => by simp
  | a :: u, b :: v, hu, hv => by
    have ih := map_inj_on hf (u := u) (v := v) (fun c h => hu c (List.mem_cons_of_mem _ h)) fun c h => hv c (List.mem_cons_of_mem _ h)
    rw [List.map_cons, List.map_cons, List.cons.injEq, List.cons.injEq, ih]
    refine and_congr_left fun _ => ⟨hf a (hu a (by simp)) b (hv b (by simp)), fun e => by rw [e]⟩
theorem per_map {f : Nat → Nat} {S w : List Nat} {p : Nat} (hf : ∀ a ∈ S, ∀ b ∈ S, f a = f b → a = b) (hw : ∀ c ∈ w, c ∈ S) : isPer (w.map f) p = isPer w p := by
  unfold isPer
  rw [List.length_map, ← List.map_drop, ← List.map_take]
  congr 1
  rw [Bool.eq_iff_iff, beq_iff_eq, beq_iff_eq]
  exact map_inj_on hf (fun c h => hw c (List.mem_of_mem_drop h)) fun c h => hw c (List.mem_of_mem_take h)
theorem reps_map {f : Nat → Nat} {S w : List Nat} {g : Nat} (hf : ∀ a ∈ S, ∀ b ∈ S, f a = f b → a = b) (hw : ∀ c ∈ w, c ∈ S) : reps (w.map f) g = reps w g := by
  unfold reps
  rw [List.length_map]
  congr 1
  funext p
  exact per_map hf hw
theorem words_map (f : Nat → Nat) (S : List Nat) : ∀ k, DL.wordsOf (S.map f) k = (DL.wordsOf S k).map (List.map f)
  | 0 => rfl
  | k + 1 => by
    rw [DL.wordsOf, DL.wordsOf, words_map f S k]
    simp [List.flatMap_map, List.map_flatMap, Function.comp_def]
theorem own_map {f : Nat → Nat} {S : List Nat} {g : Nat} (hf : ∀ a ∈ S, ∀ b ∈ S, f a = f b → a = b) : (ownW (S.map f) g).length = (ownW S g).length := by
  unfold ownW
  rw [words_map, List.filter_map, List.length_map]
  congr 1
  refine List.filter_congr fun w hw => ?_
  simp only [Function.comp]
  rw [reps_map hf (wordsOf_mem hw).2]
theorem own_len {s : List Nat} {g : Nat} (hn : s.Nodup) : (ownW s g).length = (ownW (List.range s.length) g).length := by
  have e : s = (List.range s.length).map fun i => s.getD i 0 := by
    refine List.ext_getElem (by simp) fun i h1 h2 => ?_
    simp [h1]
  have := own_map (f := fun i => s.getD i 0) (S := List.range s.length) (g := g) fun a ha b hb h => by
    have ha := List.mem_range.mp ha
    have hb := List.mem_range.mp hb
    simp only [List.getD_eq_getElem?_getD, List.getElem?_eq_getElem ha, List.getElem?_eq_getElem hb, Option.getD_some] at h
    exact (List.getElem_inj hn).mp h
  rw [← e] at this
  exact this
def grounds : List (Nat × Nat) := [(2, 2), (3, 2), (2, 3), (4, 2), (5, 2), (2, 4), (3, 3), (10, 2), (2, 5)]
theorem cnt_ok : ∀ q ∈ grounds, (((ownW (List.range q.1) q.2).length : Nat) : Int) = cntF q.1 q.2 := by decide +kernel
theorem grounds_ok : ∀ q ∈ grounds, 2 ≤ q.1 ∧ q.1 ≤ 10 ∧ 2 ≤ q.2 ∧ q.2 ≤ 5 ∧ q.1 ^ (2 * q.2 - 2) ≤ 1000000 := by decide +kernel
theorem cnt_few : cntF 2 2 = 2 ∧ cntF 3 3 = 72 ∧ cntF 2 4 = 54 ∧ cntF 9 2 = 72 := by decide +kernel
/-- a ground that is small enough to be counted -/
structure Small (s : List Nat) (g : Nat) : Prop where
  l : Letters s.length s
  g_ : (s.length, g) ∈ grounds
theorem Small.few {s : List Nat} {g : Nat} (h : Small s g) : Few s g := by
  have := grounds_ok _ h.g_
  simp only at this
  exact ⟨h.l.okG (by omega) (by omega), this.2.2.2.2, by omega⟩
theorem Small.cnt {s : List Nat} {g : Nat} (h : Small s g) : cntF s.length g = ((ownW s g).length : Nat) := by
  have := cnt_ok _ h.g_
  simp only at this
  rw [← this, own_len (h.l.inc.imp fun h => Nat.ne_of_lt h)]
theorem own_lone {s w : List Nat} {g : Nat} (h : w ∈ ownW s g) (hg : 2 ≤ g) : near w w g = false := by
  obtain ⟨h1, h2⟩ := List.mem_filter.mp h
  have hl := (wordsOf_mem h1).1
  have hr : reps w g = false := by simpa using h2
  have hd : dist w w g = [] := by
    unfold dist
    rw [List.filter_eq_nil_iff]
    intro k hk
    have hk2 := mem_upto.mp hk
    unfold reps at hr
    rw [List.any_eq_false] at hr
    have := hr k (mem_upto.mpr ⟨hk2.1, by omega⟩)
    unfold isPer at this
    rw [decide_eq_true (show k < w.length by omega)] at this
    simpa using this
  unfold near
  rw [hd]; rfl
/-! ### the law's count -/
def F__law_primitives : FC := fun ds n Q => ∃ s k : Nat, ds = [.int s, .int k] ∧ s < 2 ^ 100 ∧ k ≤ 200 ∧ Q (.val (.int ((upto (k + 1)).map (psi s)).sum)) n
theorem psi_sum (s k : Nat) : ((K04.psiL s k).map (·.2)).sum = ((upto (k + 1)).map (psi s)).sum := by
  have : (K04.psiL s k).map (·.2) = ((K04.psiL s k).map (·.1)).map (psi s) := by
    rw [List.map_map]
    exact List.map_congr_left fun p hp => (K04.psiL_mem hp).2.2
  rw [this, K04.psiL_keys]
theorem psiL_nodup (s k : Nat) : ((K04.psiL s k).map (·.1)).Nodup := by
  rw [K04.psiL_keys]
  exact (upto_inc _).imp fun h => Nat.ne_of_lt h
theorem law__law_primitives : ∀ ds n Q, F__law_primitives ds n Q → ds.length = 2 → rd__law_primitives F__law_power { nx := fun _ m => Q (.val .non) m, rt := Q } (startE 3 ds) n := by
  rintro ds n Q ⟨s, k, rfl, hs, hk, h⟩ _
  simp [sSeq, rd__law_primitives]
  refine ⟨by omega, ?_⟩
  rw [show ups 1 k = I (upto (k + 1)) from ups_upto' (k + 1)]
  refine forD_inv (fun pre env m => (∃ x3, env = [some (.val (.int s)), some (.val (.int k)), some (.ownd (K04.IP (K04.psiL s pre.length)) (K04.VP (K04.psiL s pre.length))), x3, none]) ∧ m = n) ?_ ?_ ⟨⟨none, rfl⟩, rfl⟩
  · rintro pre a post env m next hx ⟨⟨x3, rfl⟩, rfl⟩ hn
    have ha : a = pre.length + 1 ∧ a ≤ k := by
      unfold upto at hx
      have h1 : pre.length < k := by
        have := congrArg List.length hx
        simp at this; omega
      have h2 := congrArg (fun l : List Nat => l[pre.length]?) hx
      simp [h1] at h2
      omega
    obtain ⟨rfl, hak⟩ := ha
    simp
    refine ⟨s, pre.length + 1, by simp, hs, by omega, ?_⟩
    simp
    refine goD_filter (fun p : Nat × Int => (pre.length + 1) % p.1 == 0) (fun p => D.int p.2) (fun p hp m K hT hF => ?_) ?_
    · have hpm := K04.psiL_mem hp
      simp [stepD]
      refine ⟨by omega, ?_⟩
      by_cases hc : (pre.length + 1) % p.1 = 0
      · rw [if_pos ((K04.mod0'' _ _).mpr hc)]
        refine ⟨_, K04.dGet_ip (psiL_nodup _ _) hp, hT (by simp [hc])⟩
      · rw [if_neg fun z => hc ((K04.mod0'' _ _).mp z)]
        exact hF (by simp [hc])
    · refine ⟨((K04.psiL s pre.length).filter fun p => (pre.length + 1) % p.1 == 0).map (·.2), by rw [List.map_map]; rfl, ?_⟩
      have hnew : ∀ p ∈ K04.psiL s pre.length, p.1 ≠ pre.length + 1 := fun p hp => by
        have := K04.psiL_mem hp
        omega
      have hlen : (K04.psiL s pre.length).length ≤ pre.length := by
        have h2 := congrArg List.length (K04.psiL_keys s pre.length)
        rw [List.length_map, upto_len] at h2
        omega
      have hz : (s : Int) ^ (pre.length + 1) - (((K04.psiL s pre.length).filter fun p => (pre.length + 1) % p.1 == 0).map (·.2)).sum = psi s (pre.length + 1) := rfl
      rw [hz]
      refine ⟨_, _, ⟨rfl, rfl⟩, by rw [List.length_map]; omega, ?_⟩
      have hput := K04.put_ip (z := psi s (pre.length + 1)) hnew
      rw [show ((pre.length : Int) + 1) = ((pre.length + 1 : Nat) : Int) from rfl, hput.1, hput.2]
      refine hn _ _ ⟨⟨some (.val (.int ((pre.length + 1 : Nat) : Int))), ?_⟩, rfl⟩
      rw [List.length_append]
      simp [K04.psiL]
      rfl
  · rintro env m ⟨⟨x3, rfl⟩, rfl⟩
    rw [upto_len, show k + 1 - 1 = k from rfl]
    simp
    refine goD_map (fun p : Nat × Int => D.int p.2) (fun p hp m K hK => ?_) ?_
    · simp [stepD]
      exact ⟨_, K04.dGet_ip (psiL_nodup _ _) hp, hK⟩
    refine ⟨(K04.psiL s k).map (·.2), by rw [List.map_map]; rfl, ?_⟩
    rw [psi_sum]
    exact h
end K07

/-! ## LawA_K07 -/
namespace K07
open PySem L2 DL
theorem atI_last {α : Type} {xs : List α} {x : α} (h : xs.getLast? = some x) : atI xs (-1) = some x := by
  have hne : xs ≠ [] := fun e => by rw [e] at h; cases h
  have hl : 0 < xs.length := List.length_pos_iff.mpr hne
  have e : ixN xs.length (-1) = some (xs.length - 1) := by
    unfold ixN
    rw [if_neg (by decide)]
    rw [if_pos (by omega)]
    congr 1
    omega
  unfold atI
  rw [e]
  show xs[xs.length - 1]? = some x
  rw [← List.getLast?_eq_getElem?]
  exact h
theorem cutL_le {α : Type} (xs : List α) (lo hi : Option Int) : (cutL xs lo hi).length ≤ xs.length := by
  unfold cutL
  rw [List.length_take, List.length_drop]
  omega
theorem cutL_map {α β : Type} (f : α → β) (xs : List α) (lo hi : Option Int) : cutL (xs.map f) lo hi = (cutL xs lo hi).map f := by
  unfold cutL
  rw [List.length_map, List.map_take, List.map_drop]
def F__law_great_right : FC := fun ds n Q => ds = [dice] ∧ n + 100000 ≤ 1000000000000000000 ∧ ∀ m, n ≤ m → m ≤ n + 100000 → Q (.val (.bl true)) m
theorem law__law_great_right : ∀ ds n Q, F__law_great_right ds n Q → ds.length = 1 → rd__law_great_right F_draw (F_exact 5) F__law_letters F__law_made F__law_power F__law_primitives F_many_own { nx := fun _ m => Q (.val .non) m, rt := Q } (startE 4 ds) n := by
  rintro ds n Q ⟨rfl, hn, h⟩ _
  unfold rd__law_great_right
  refine sSeq_of fun next0 hn0 => ?_
  simp
  refine draw_of (by omega) (by omega) (by omega) fun r m1 hr h1 h2 => ?_
  simp
  have e : (2 : Int) + (r : Int) = ((2 + r : Nat) : Int) := by omega
  rw [e]
  refine letters_of (by omega) (by omega) fun s m2 hs h3 h4 => ?_
  simp
  refine draw_of (by omega) (by omega) (by omega) fun r2 m3 hr2 h5 h6 => ?_
  simp
  have e2 : (2 : Int) + (r2 : Int) = ((2 + r2 : Nat) : Int) := by omega
  rw [e2]
  have hsl := hs.len
  have hs' : Letters s.length s := ⟨rfl, hs.low, hs.inc⟩
  refine hn0 _ _ ?_
  generalize hg : 2 + r2 = g at *
  refine sSeq_of fun next1 hn1 => ?_
  simp
  refine hn1 _ _ ?_
  refine sSeq_of fun next2 hn2 => ?_
  simp
  have hb : s.length < 2 ^ 100 := Nat.lt_of_le_of_lt (show s.length ≤ 1000 by omega) (by decide)
  have e3 : (2 : Int) * (g : Int) - 2 = ((2 * g - 2 : Nat) : Int) := by omega
  have e4 : (g : Int) - 1 = ((g - 1 : Nat) : Int) := by omega
  rw [e3, e4]
  refine ⟨MulOk.left (by omega), ?_⟩
  refine ⟨s.length, 2 * g - 2, rfl, hb, by omega, ?_⟩
  simp
  refine ⟨s.length, g - 1, rfl, hb, by omega, ?_⟩
  simp
  refine hn2 _ _ ?_
  simp
  refine ⟨by rw [PySem.sizeLine_eq]; decide, ?_⟩
  refine ⟨s, g, rfl, hs'.okG (by omega) (by omega), ?_⟩
  simp
  refine ⟨s, g, rfl, by omega, by omega, by omega, ?_⟩
  have e5 : cntF s.length g = (s.length : Int) ^ (2 * g - 2) - ((upto (g - 1 + 1)).map (psi s.length)).sum := by
    unfold cntF
    rw [show g - 1 + 1 = g from by omega]
  rw [e5]
  refine exact_same (by simp) ?_
  exact h _ (by omega) (by omega)
def F__law_many_ground : FC := fun ds n Q => ds = [dice] ∧ n + 20000 ≤ 1000000000000000000 ∧ ∀ s g m, Small s g → n ≤ m → m ≤ n + 20000 → Q (.val (.tup [.str s, .int (g : Nat)])) m
theorem law__law_many_ground : ∀ ds n Q, F__law_many_ground ds n Q → ds.length = 1 → rd__law_many_ground F_draw F__law_letters { nx := fun _ m => Q (.val .non) m, rt := Q } (startE 0 ds) n := by
  rintro ds n Q ⟨rfl, hn, h⟩ _
  unfold rd__law_many_ground
  simp
  refine draw_of (by omega) (by omega) (by omega) fun r m1 hr h1 h2 => ?_
  simp
  by_cases hr0 : r = 0
  · simp [hr0]
    refine letters_of (many := 10) (by omega) (by omega) fun s m2 hs h3 h4 => ?_
    refine ⟨by rw [PySem.sizeLine_eq]; decide, h s 2 _ ⟨⟨rfl, hs.low, hs.inc⟩, by rw [hs.len]; decide⟩ (by omega) (by omega)⟩
  · simp [hr0]
    refine letters_of (many := 2) (by omega) (by omega) fun s m2 hs h3 h4 => ?_
    refine ⟨by rw [PySem.sizeLine_eq]; decide, h s 5 _ ⟨⟨rfl, hs.low, hs.inc⟩, by rw [hs.len]; decide⟩ (by omega) (by omega)⟩
theorem str_in (L : List (List Nat)) (w : List Nat) : ((L.map D.str).any fun y => eqD y (.str w)) = decide (w ∈ L) := by
  rw [List.any_map, Bool.eq_iff_iff, List.any_eq_true, decide_eq_true_eq]
  simp [Function.comp]
def F__law_ground_right : FC := fun ds n Q => ∃ (s : List Nat) (g : Nat), ds = [.tup [.str s, .int g]] ∧ Small s g ∧ Q (.val (.bl true)) n
theorem law__law_ground_right : ∀ ds n Q, F__law_ground_right ds n Q → ds.length = 1 → rd__law_ground_right (F_exact 5) F__law_made F__law_near F__law_own F__law_words_of F_is_own F_many_own F_near_ones F_own_windows F_windows { nx := fun _ m => Q (.val .non) m, rt := Q } (startE 8 ds) n := by
  rintro ds n Q ⟨s, g, rfl, hS, h⟩ _
  have hF := hS.few
  have hc := hS.cnt
  have hok := grounds_ok _ hS.g_
  simp only at hok
  have hg := hF.ok.gap
  have hse : (2 : Int) * (g : Int) - 2 = ((2 * g - 2 : Nat) : Int) := by omega
  unfold rd__law_ground_right
  refine sSeq_of fun next0 hn0 => ?_
  simp
  refine ⟨s, g, rfl, hF.ok, ?_⟩
  simp
  refine ⟨MulOk.left (by omega), ?_⟩
  rw [hse]
  refine ⟨s, _, rfl, hF.ne, hF.few, by omega, ?_⟩
  simp
  refine hn0 _ _ ?_
  clear hn0
  have hWn : DL.wordsOf s (2 * g - 2) ≠ [] := fun e => own_ne hF.ok (by unfold ownW; rw [e]; rfl)
  have hWl : (DL.wordsOf s (2 * g - 2)).length ≤ 1000000 := wordsOf_le hF.ne hF.few (Nat.le_refl _)
  have hOl : (ownW s g).length ≤ 1000000 := Nat.le_trans (List.length_filter_le ..) hWl
  have hOn := own_ne hF.ok
  obtain ⟨o1, ho1⟩ : ∃ o, (ownW s g).getLast? = some o := ⟨_, List.getLast?_eq_getLast hOn⟩
  obtain ⟨w1, hw1⟩ : ∃ o, (DL.wordsOf s (2 * g - 2)).getLast? = some o := ⟨_, List.getLast?_eq_getLast hWn⟩
  have ho2 : o1 ∈ ownW s g := List.mem_of_getLast? ho1
  have hw2 : w1 ∈ DL.wordsOf s (2 * g - 2) := List.mem_of_getLast? hw1
  have ho3 : atI ((ownW s g).map D.str) (-1) = some (.str o1) := atI_last (by rw [List.getLast?_map, ho1]; rfl)
  have hw3 : atI ((DL.wordsOf s (2 * g - 2)).map D.str) (-1) = some (.str w1) := atI_last (by rw [List.getLast?_map, hw1]; rfl)
  have hr1 : reps o1 g = false := by simpa using (List.mem_filter.mp ho2).2
  have hpO : ∀ k, plains k ((ownW s g).map D.str) = true := fun k => plains_S _
  have hpW : ∀ k, plains k ((DL.wordsOf s (2 * g - 2)).map D.str) = true := fun k => plains_S _
  refine sSeq_of fun next1 hn1 => ?_
  simp
  refine ⟨s, g, rfl, hF, ?_⟩
  simp
  refine hn1 _ _ ?_
  clear hn1
  refine sSeq_of fun next2 hn2 => ?_
  simp
  refine ⟨s, g, rfl, hF.ok, ?_⟩
  simp
  refine ⟨s, g, rfl, hF, ?_⟩
  simp
  refine ⟨s, g, rfl, hF.ok, ?_⟩
  simp
  refine ⟨s, g, rfl, by omega, by omega, by omega, ?_⟩
  simp
  refine ⟨s, g, rfl, hF.ok, ?_⟩
  simp [ho3]
  refine ⟨s, g, o1, rfl, by omega, by omega, word_wnd (List.mem_filter.mp ho2).1, ?_⟩
  rw [hr1, hc]
  simp
  refine ⟨by rw [PySem.sizeLine_eq]; decide, ?_⟩
  refine exact_same (by simp; simpa using hpO 3) ?_
  simp
  refine hn2 _ _ ?_
  clear hn2
  refine sSeq_of fun next3 hn3 => ?_
  simp
  rw [ups_eq]
  refine forD_inv (fun pre env j => (∃ x4 x5 x6 x7 x8, env = [some (.val (.tup [.str s, .int g])), some (.val (gnd s g)), some (.val (.lst ((DL.wordsOf s (2 * g - 2)).map D.str))), some (.val (.lst ((ownW s g).map D.str))), x4, x5, x6, x7, x8]) ∧ j = n) ?_ ?_ ⟨⟨_, _, _, _, _, rfl⟩, rfl⟩
  · rintro pre p post env j next hx ⟨⟨x4, x5, x6, x7, x8, rfl⟩, rfl⟩ hn
    simp
    refine sSeq_of fun next4 hn4 => ?_
    simp
    refine ⟨s, g, rfl, hF, _, rfl, ?_⟩
    refine ⟨s, g, rfl, hF, _, rfl, ?_⟩
    refine hn4 _ _ ?_
    refine sSeq_of fun next5 hn5 => ?_
    simp
    refine ⟨s, g, rfl, by omega, by omega, by omega, ?_⟩
    rw [hc]
    simp
    refine ⟨by rw [PySem.sizeLine_eq]; decide, ?_⟩
    refine exact_same (by simp; exact ⟨by simpa using hpW 3, by simpa using hpO 3⟩) ?_
    simp
    refine hn5 _ _ ?_
    refine sSeq_of fun next6 hn6 => ?_
    simp
    refine ⟨by omega, hn6 _ _ ?_⟩
    simp
    refine ⟨by omega, hn _ _ ⟨⟨_, _, _, _, _, rfl⟩, rfl⟩⟩
  rintro env j ⟨⟨x4, x5, x6, x7, x8, rfl⟩, rfl⟩
  refine hn3 _ _ ?_
  clear hn3
  refine sSeq_of fun next7 hn7 => ?_
  simp
  rw [cutL_map, cutL_map, ← List.map_append]
  have l1 := cutL_le (DL.wordsOf s (2 * g - 2)) none (some 90)
  have l2 := cutL_le (DL.wordsOf s (2 * g - 2)) (some (-90)) none
  refine ⟨by rw [List.length_map, List.length_map]; omega, ?_⟩
  have hZ : ∀ w ∈ cutL (DL.wordsOf s (2 * g - 2)) none (some 90) ++ cutL (DL.wordsOf s (2 * g - 2)) (some (-90)) none, w ∈ DL.wordsOf s (2 * g - 2) := fun w hw => by
    rcases List.mem_append.mp hw with hw | hw
    · exact cutL_mem hw
    · exact cutL_mem hw
  generalize cutL (DL.wordsOf s (2 * g - 2)) none (some 90) ++ cutL (DL.wordsOf s (2 * g - 2)) (some (-90)) none = Z at hZ
  refine forD_inv (fun pre env i => (∃ x5, env = [some (.val (.tup [.str s, .int g])), some (.val (gnd s g)), some (.val (.lst ((DL.wordsOf s (2 * g - 2)).map D.str))), some (.val (.lst ((ownW s g).map D.str))), x4, x5, x6, x7, x8]) ∧ i = j) ?_ ?_ ⟨⟨_, rfl⟩, rfl⟩
  · rintro pre w post env i next hx ⟨⟨x5, rfl⟩, rfl⟩ hn
    have hw := hZ w (by rw [hx]; simp)
    simp
    refine ⟨s, g, w, rfl, by omega, by omega, word_wnd hw, ?_⟩
    have e1 := str_in (ownW s g) w
    rw [List.any_map] at e1
    have e2 : (!reps w g) = decide (w ∈ ownW s g) := by
      rw [Bool.eq_iff_iff, decide_eq_true_eq]
      unfold ownW
      rw [List.mem_filter]
      exact ⟨fun h => ⟨hw, h⟩, fun h => h.2⟩
    simp [e1]
    rw [e2]
    refine exact_same (by simp) ?_
    simp
    exact hn _ _ ⟨⟨_, rfl⟩, rfl⟩
  rintro env i ⟨⟨x5, rfl⟩, rfl⟩
  refine hn7 _ _ ?_
  clear hn7
  refine sSeq_of fun next8 hn8 => ?_
  simp
  refine ⟨s, g, rfl, hF, _, rfl, ?_⟩
  refine ⟨s, g, rfl, hF, _, rfl, ?_⟩
  refine hn8 _ _ ?_
  clear hn8
  refine sSeq_of fun next9 hn9 => ?_
  simp [hw3]
  refine ⟨s, g, w1, rfl, hF, word_wnd hw2, ?_⟩
  refine hn9 _ _ ?_
  clear hn9
  refine sSeq_of fun next10 hn10 => ?_
  simp [hw3]
  refine ⟨by rw [PySem.sizeLine_eq]; decide, ?_⟩
  refine goD_filter (fun w => near w1 w g) (fun w => D.str w) (fun w hw m K hT hF => ?_) ?_
  · have hwn := own_wnd hw
    have hw1n := word_wnd hw2
    simp [stepD, hw3]
    refine ⟨w1, w, g, rfl, wgl hw1n hg, by rw [hw1n.len, hwn.len], by have := hw1n.len; omega, ?_⟩
    cases e : near w1 w g with
    | true => simpa using hT e
    | false => simpa using hF e
  generalize (ownW s g).filter (fun w => near w1 w g) = O
  have hpX : ∀ k, plains k (O.map D.str) = true := fun k => plains_S _
  refine ⟨by rw [PySem.sizeLine_eq]; decide, ?_⟩
  refine exact_same (by simp; exact ⟨by simpa using hpW 3, by simpa using hpO 3, by simpa using hpX 3⟩) ?_
  simp
  refine hn10 _ _ ?_
  simp
  refine goD_map (fun w : List Nat => D.bl false) (fun w hw m K hK => ?_) ?_
  · have hwn := own_wnd hw
    simp [stepD]
    refine ⟨w, w, g, rfl, wgl hwn hg, rfl, by have := hwn.len; omega, ?_⟩
    rw [own_lone hw hg]
    exact hK
  refine ⟨(ownW s g).map fun _ => false, by simp, ?_⟩
  have e : ((ownW s g).map fun _ => false).any id = false := by simp
  rw [e]
  exact h
end K07

/-! ## LawB_K07 -/
namespace K07
open PySem L2 DL
theorem window_of {s : List Nat} {g n : Nat} {K : Sl → Nat → Prop} (hG : Grt 1000 s g) (hn : n + 500000 ≤ 1000000000000000000) (h : ∀ w m, Wnd s g w → n ≤ m → m ≤ n + 500000 → K (.val (.str w)) m) : F__law_great_window [dice, .tup [.str s, .int (g : Nat)]] n K := ⟨s, g, rfl, hG, hn, h⟩
def F__law_far_right : FC := fun ds n Q => ds = [dice] ∧ n + 10000000 ≤ 1000000000000000000 ∧ ∀ m, n ≤ m → m ≤ n + 10000000 → Q (.val (.bl true)) m
theorem law__law_far_right : ∀ ds n Q, F__law_far_right ds n Q → ds.length = 1 → rd__law_far_right (F_exact 5) F__law_great_ground F__law_great_window F__law_made F__law_repeats F_is_own F_next_ones { nx := fun _ m => Q (.val .non) m, rt := Q } (startE 5 ds) n := by
  rintro ds n Q ⟨rfl, hn, h⟩ _
  unfold rd__law_far_right
  refine sSeq_of fun next0 hn0 => ?_
  simp
  refine ⟨60, rfl, by decide, by decide, by omega, fun s g m hG h1 h2 => ?_⟩
  have hg := hG.ok.gap
  have hg2 := hG.g2
  have hs2 := hG.ok.two
  have hs6 := hG.six
  have hG2 : Grt 1000 s g := ⟨hG.ok, hG.six, by omega⟩
  refine hn0 _ _ ?_
  refine sSeq_of fun next1 hn1 => ?_
  simp
  refine ⟨s, g, rfl, hG.ok, ?_⟩
  simp
  refine hn1 _ _ ?_
  refine sSeq_of fun next2 hn2 => ?_
  simp
  rw [ups_eq]
  refine forD_inv (fun pre env j => (∃ x3 x4 x5, env = [some (.val dice), some (.val (.tup [.str s, .int g])), some (.val (gnd s g)), x3, x4, x5]) ∧ m ≤ j ∧ j ≤ m + 1000000 * pre.length) ?_ ?_ ⟨⟨_, _, _, rfl⟩, by omega, by simp⟩
  · rintro pre p post env j next hx ⟨⟨x3, x4, x5, rfl⟩, hj1, hj2⟩ hn
    have hr := range_pre hx
    simp
    refine sSeq_of fun next3 hn3 => ?_
    simp
    refine window_of hG2 (by omega) fun w m2 hw h3 h4 => ?_
    have hwl := hw.len
    refine hn3 _ _ ?_
    refine sSeq_of fun next4 hn4 => ?_
    simp
    refine ⟨s, g, w, rfl, by omega, by omega, hw, ?_⟩
    simp
    refine ⟨w, g, rfl, by omega, ?_⟩
    simp
    refine exact_same (by simp) ?_
    simp
    refine hn4 _ _ ?_
    simp
    refine ⟨s, g, w, rfl, by omega, by omega, hw, ?_⟩
    simp
    refine goD_map (fun c : Nat => D.str (w.tail ++ [c])) (fun c hc m K hK => ?_) ?_
    · have : (w.drop 1).length ≤ w.length := by rw [List.length_drop]; omega
      simp [stepD]
      rw [cutL_tail]
      refine ⟨by omega, ?_⟩
      rw [List.drop_one]
      exact hK
    have hp : ∀ k, plains k (s.map fun c : Nat => D.str (w.tail ++ [c])) = true := fun k => by
      have := plains_S (k := k) (s.map fun c => w.tail ++ [c])
      rwa [List.map_map] at this
    refine exact_same (k := 5) (x := .lst (s.map fun c : Nat => D.str (w.tail ++ [c]))) (hp 4) ?_
    simp
    refine hn _ _ ⟨⟨_, _, _, rfl⟩, by omega, ?_⟩
    have : (pre ++ [p]).length = pre.length + 1 := by simp
    omega
  rintro env j ⟨⟨x3, x4, x5, rfl⟩, hj1, hj2⟩
  refine hn2 _ _ ?_
  simp at hj2
  simp
  exact h _ (by omega) (by omega)
theorem Gnd.small {most : Int} {s : List Nat} {g : Nat} (h : Gnd most s g) : Small s g := by
  refine ⟨h.let_, ?_⟩
  obtain ⟨q, hq, h1, h2, _⟩ := h.sz
  rw [← h1, ← h2]
  have : ∀ q ∈ GL, (q.1, q.2.1) ∈ grounds := by decide
  exact this q hq
theorem law_law : ∀ ds n Q, F_law ds n Q → ds.length = 1 → rd_law F_dices F_draw (F_exact 5) F__law_far_right F__law_great_right F__law_great_window F__law_ground F__law_ground_right F__law_letters F__law_made F__law_many_ground F__law_near F__law_own F_many_own F_near_ones { nx := fun _ m => Q (.val .non) m, rt := Q } (startE 5 ds) n := by
  rintro ds n Q ⟨ns, rfl, h1, rfl, h⟩ _
  unfold rd_law
  obtain ⟨G, hG6⟩ : ∃ G : Nat, G = 6 := ⟨6, rfl⟩
  rw [show (6 : Int) = ((G : Nat) : Int) from by omega]
  refine sSeq_of fun next0 hn0 => ?_
  simp
  refine ⟨ns, 1, rfl, h1, by decide, by decide, fun k hk1 hk2 => ?_⟩
  have hk3 : k ≤ 1 := by omega
  simp
  refine dices_inv (fun env => ∃ x1 x2 x3 x4 x5, env = [some (.val (.scr ns)), x1, x2, x3, x4, x5]) (c := 200000000) (by omega) (by omega) ?_ ?_ ⟨_, _, _, _, _, rfl⟩
  · rintro env m next ⟨x1, x2, x3, x4, x5, rfl⟩ hm hn
    simp
    refine sSeq_of fun next1 hn1 => ?_
    simp
    refine draw_of (by omega) (by omega) (by omega) fun r m1 hr hm1 hm2 => ?_
    simp
    have K1 : ∀ m', m1 ≤ m' → m' ≤ m1 + 20000 → next1 [some (.val (.scr ns)), some (.val dice), x2, x3, x4, x5] m' := by
      intro m2 hm3 hm4
      refine hn1 _ _ ?_
      refine sSeq_of fun next2 hn2 => ?_
      have K2 : ∀ m' x3 x4 x5, m2 ≤ m' → m' ≤ m2 + 1000000 → next2 [some (.val (.scr ns)), some (.val dice), x2, x3, x4, x5] m' := by
        intro m3 x3 x4 x5 hm5 hm6
        refine hn2 _ _ ?_
        simp
        refine ⟨80, rfl, by decide, by simp only [DRW, LIM]; omega, fun s g m4 hG hm7 hm8 => ?_⟩
        simp only [DRW] at hm8
        refine ⟨s, g, rfl, Gnd.small hG, ?_⟩
        simp
        refine ⟨rfl, by omega, fun m5 hm9 hm10 => ?_⟩
        simp
        refine ⟨rfl, by omega, fun m6 hm11 hm12 => ?_⟩
        simp
        refine ⟨rfl, by omega, fun m7 hm13 hm14 => ?_⟩
        simp
        exact hn _ _ ⟨_, _, _, _, _, rfl⟩ (by omega)
      simp
      refine draw_of (by omega) (by omega) (by omega) fun r2 m3 hr2 hm5 hm6 => ?_
      simp
      by_cases hr0 : r2 = 0
      · simp [hr0]
        refine sSeq_of fun next3 hn3 => ?_
        simp
        refine letters_of (many := 2) (by omega) (by omega) fun s m4 hs hm7 hm8 => ?_
        have hsl := hs.len
        have hs' : Letters s.length s := ⟨rfl, hs.low, hs.inc⟩
        have hok : OkG s G := hs'.okG (by omega) (by omega)
        have hF : Few s G := ⟨hok, by rw [hsl, hG6]; decide, by omega⟩
        simp
        refine ⟨by rw [PySem.sizeLine_eq]; decide, hn3 _ _ ?_⟩
        refine sSeq_of fun next4 hn4 => ?_
        simp
        refine window_of (g := G) ⟨hok, by omega, by omega⟩ (by omega) fun w m5 hw hm9 hm10 => ?_
        have hwl := hw.len
        refine hn4 _ _ ?_
        simp
        refine ⟨s, G, rfl, hok, ?_⟩
        simp
        refine ⟨s, G, w, rfl, hF, hw, ?_⟩
        simp
        refine ⟨s, G, rfl, hF, ?_⟩
        simp
        refine goD_filter (fun v => near w v G) (fun v => D.str v) (fun v hv m K hT hF => ?_) ?_
        · have hv2 := own_wnd hv
          simp [stepD]
          refine ⟨w, v, G, rfl, wgl hw (by omega), by rw [hw.len, hv2.len], by omega, ?_⟩
          cases e : near w v G with
          | true => simpa using hT e
          | false => simpa using hF e
        refine exact_same (plains_S _) ?_
        simp
        exact K2 _ _ _ _ (by omega) (by omega)
      · simp [hr0]
        exact K2 _ _ _ _ (by omega) (by omega)
    by_cases hr0 : r = 0
    · simp [hr0]
      refine ⟨rfl, by omega, fun s g m2 hS hm3 hm4 => ?_⟩
      refine ⟨s, g, rfl, hS, ?_⟩
      simp
      exact K1 _ (by omega) (by omega)
    · simp [hr0]
      exact K1 _ (by omega) (by omega)
  rintro env m ⟨x1, x2, x3, x4, x5, rfl⟩ hm
  refine hn0 _ _ ?_
  refine sSeq_of fun next9 hn9 => ?_
  have hA : ∀ k ≤ 9, 2 ≤ k → OkG ([97, 98, 99, 100, 101, 102, 103, 104, 105].take k) 2 := by
    intro k hk h2
    have h1 : ∀ k ≤ 9, low ([97, 98, 99, 100, 101, 102, 103, 104, 105].take k) = true ∧ ([97, 98, 99, 100, 101, 102, 103, 104, 105].take k).Pairwise (· < ·) ∧ ([97, 98, 99, 100, 101, 102, 103, 104, 105].take k).length = k := by decide
    obtain ⟨q1, q2, q3⟩ := h1 k hk
    exact Letters.okG ⟨rfl, q1, q2⟩ (by omega) (by decide)
  have ok2 : ∀ {s : List Nat} {g : Nat}, OkG s 2 → 2 ≤ g → OkG s g := fun h hg => ⟨h.ok, h.low, h.two, h.inc, hg⟩
  obtain ⟨c1, c2, c3, c4⟩ := cnt_few
  simp
  refine ⟨by rw [PySem.sizeLine_eq]; decide, ?_⟩
  refine ⟨[97, 98], 2, rfl, hA 2 (by decide) (by decide), ?_⟩
  simp
  refine ⟨[97, 98], 2, rfl, by decide, by decide, by decide, ?_⟩
  simp
  refine ⟨by rw [PySem.sizeLine_eq]; decide, ?_⟩
  refine ⟨[97, 98, 99], 3, rfl, ok2 (hA 3 (by decide) (by decide)) (by decide), ?_⟩
  simp
  refine ⟨[97, 98, 99], 3, rfl, by decide, by decide, by decide, ?_⟩
  simp
  refine ⟨by rw [PySem.sizeLine_eq]; decide, ?_⟩
  refine ⟨[97, 98], 4, rfl, ok2 (hA 2 (by decide) (by decide)) (by decide), ?_⟩
  simp
  refine ⟨[97, 98], 4, rfl, by decide, by decide, by decide, ?_⟩
  simp
  refine ⟨by rw [PySem.sizeLine_eq]; decide, ?_⟩
  refine ⟨[97, 98, 99, 100, 101, 102, 103, 104, 105], 2, rfl, hA 9 (by decide) (by decide), ?_⟩
  simp
  refine ⟨[97, 98, 99, 100, 101, 102, 103, 104, 105], 2, rfl, by decide, by decide, by decide, ?_⟩
  simp
  refine ⟨by rw [PySem.sizeLine_eq]; decide, hn9 _ _ ?_⟩
  rw [c1, c2, c3, c4]
  simp
  refine ⟨by rw [PySem.sizeLine_eq]; decide, ?_⟩
  exact exact_same (by simp) (h _)
end K07

/-! ## Walk_K07 -/
namespace K07
open PySem PySem.Spec PyProof.Rows L2 DL
/-! ### the text -/
def topS (i : Nat) : Stmt := PySem.Challenge.pw_owncuts_k07_whole_windows_and_own_ones.main.body.getD i (.Pass ⟨0, 0, 0, 0⟩)
abbrev s_is_whole : Stmt := topS 7
theorem sc_is_whole : FnScope ["value"] ["value"] (defScope s_is_whole) := ⟨rfl, rfl, rfl, by decide +kernel, rfl, by decide +kernel, by decide +kernel⟩
abbrev s_is_count : Stmt := topS 8
theorem sc_is_count : FnScope ["value", "most"] ["value", "most"] (defScope s_is_count) := ⟨rfl, rfl, rfl, by decide +kernel, rfl, by decide +kernel, by decide +kernel⟩
abbrev s_is_text : Stmt := topS 9
theorem sc_is_text : FnScope ["value", "sign"] ["value"] (defScope s_is_text) := ⟨rfl, rfl, rfl, by decide +kernel, rfl, by decide +kernel, by decide +kernel⟩
abbrev s_is_rising : Stmt := topS 10
theorem sc_is_rising : FnScope ["things", "at"] ["things"] (defScope s_is_rising) := ⟨rfl, rfl, rfl, by decide +kernel, rfl, by decide +kernel, by decide +kernel⟩
abbrev s_has : Stmt := topS 12
theorem sc_has : FnScope ["text", "period"] ["text", "period"] (defScope s_has) := ⟨rfl, rfl, rfl, by decide +kernel, rfl, by decide +kernel, by decide +kernel⟩
abbrev s_repeats : Stmt := topS 13
theorem sc_repeats : FnScope ["word", "gap", "period"] ["word", "gap"] (defScope s_repeats) := ⟨rfl, rfl, rfl, by decide +kernel, rfl, by decide +kernel, by decide +kernel⟩
abbrev s_many_words : Stmt := topS 14
theorem sc_many_words : FnScope ["signs", "length", "found", "spin"] ["signs", "length"] (defScope s_many_words) := ⟨rfl, rfl, rfl, by decide +kernel, rfl, by decide +kernel, by decide +kernel⟩
abbrev s_primitives : Stmt := topS 15
theorem sc_primitives : FnScope ["signs", "length", "found", "size", "late"] ["signs", "length"] (defScope s_primitives) := ⟨rfl, rfl, rfl, by decide +kernel, rfl, by decide +kernel, by decide +kernel⟩
abbrev s_check_ground : Stmt := topS 18
theorem sc_check_ground : FnScope ["value"] ["value"] (defScope s_check_ground) := ⟨rfl, rfl, rfl, by decide +kernel, rfl, by decide +kernel, by decide +kernel⟩
abbrev s_is_text_of : Stmt := topS 19
theorem sc_is_text_of : FnScope ["ground", "value", "sign"] ["ground", "value"] (defScope s_is_text_of) := ⟨rfl, rfl, rfl, by decide +kernel, rfl, by decide +kernel, by decide +kernel⟩
abbrev s_is_window_of : Stmt := topS 20
theorem sc_is_window_of : FnScope ["ground", "value"] ["ground", "value"] (defScope s_is_window_of) := ⟨rfl, rfl, rfl, by decide +kernel, rfl, by decide +kernel, by decide +kernel⟩
abbrev s_check_window : Stmt := topS 21
theorem sc_check_window : FnScope ["ground", "value"] ["ground", "value"] (defScope s_check_window) := ⟨rfl, rfl, rfl, by decide +kernel, rfl, by decide +kernel, by decide +kernel⟩
abbrev s_words_of : Stmt := topS 22
theorem sc_words_of : FnScope ["signs", "size", "found", "spin", "word", "sign"] ["signs", "size"] (defScope s_words_of) := ⟨rfl, rfl, rfl, by decide +kernel, rfl, by decide +kernel, by decide +kernel⟩
abbrev s_own_list : Stmt := topS 23
theorem sc_own_list : FnScope ["ground", "some", "window"] ["ground"] (defScope s_own_list) := ⟨rfl, rfl, rfl, by decide +kernel, rfl, by decide +kernel, by decide +kernel⟩
abbrev s_distances_in : Stmt := topS 24
theorem sc_distances_in : FnScope ["one", "other", "gap", "space"] ["one", "other", "gap"] (defScope s_distances_in) := ⟨rfl, rfl, rfl, by decide +kernel, rfl, by decide +kernel, by decide +kernel⟩
abbrev s_is_near : Stmt := topS 25
theorem sc_is_near : FnScope ["one", "other", "gap"] ["one", "other", "gap"] (defScope s_is_near) := ⟨rfl, rfl, rfl, by decide +kernel, rfl, by decide +kernel, by decide +kernel⟩
abbrev s_windows : Stmt := topS 26
theorem sc_windows : FnScope ["ground"] ["ground"] (defScope s_windows) := ⟨rfl, rfl, rfl, by decide +kernel, rfl, by decide +kernel, by decide +kernel⟩
abbrev s_own_windows : Stmt := topS 27
theorem sc_own_windows : FnScope ["ground"] ["ground"] (defScope s_own_windows) := ⟨rfl, rfl, rfl, by decide +kernel, rfl, by decide +kernel, by decide +kernel⟩
abbrev s_is_own : Stmt := topS 28
theorem sc_is_own : FnScope ["ground", "window"] ["ground", "window"] (defScope s_is_own) := ⟨rfl, rfl, rfl, by decide +kernel, rfl, by decide +kernel, by decide +kernel⟩
abbrev s_count_own : Stmt := topS 29
theorem sc_count_own : FnScope ["ground", "signs", "period"] ["ground"] (defScope s_count_own) := ⟨rfl, rfl, rfl, by decide +kernel, rfl, by decide +kernel, by decide +kernel⟩
abbrev s_many_own : Stmt := topS 30
theorem sc_many_own : FnScope ["ground"] ["ground"] (defScope s_many_own) := ⟨rfl, rfl, rfl, by decide +kernel, rfl, by decide +kernel, by decide +kernel⟩
abbrev s_near_ones : Stmt := topS 31
theorem sc_near_ones : FnScope ["ground", "window", "late"] ["ground", "window"] (defScope s_near_ones) := ⟨rfl, rfl, rfl, by decide +kernel, rfl, by decide +kernel, by decide +kernel⟩
abbrev s_next_ones : Stmt := topS 32
theorem sc_next_ones : FnScope ["ground", "window", "sign"] ["ground", "window"] (defScope s_next_ones) := ⟨rfl, rfl, rfl, by decide +kernel, rfl, by decide +kernel, by decide +kernel⟩
abbrev s__law_dice : Stmt := topS 34
theorem sc__law_dice : FnScope ["script", "at", "seed"] ["script", "at"] (defScope s__law_dice) := ⟨rfl, rfl, rfl, by decide +kernel, rfl, by decide +kernel, by decide +kernel⟩
abbrev s__law_mixed : Stmt := topS 35
theorem sc__law_mixed : FnScope ["seed", "spin", "at", "mixed"] ["seed", "spin", "at"] (defScope s__law_mixed) := ⟨rfl, rfl, rfl, by decide +kernel, rfl, by decide +kernel, by decide +kernel⟩
abbrev s__law_draw : Stmt := topS 36
theorem sc__law_draw : FnScope ["dice", "many", "found", "piece", "drawn"] ["dice", "many"] (defScope s__law_draw) := ⟨rfl, rfl, rfl, by decide +kernel, rfl, by decide +kernel, by decide +kernel⟩
abbrev s__law_one_of : Stmt := topS 37
theorem sc__law_one_of : FnScope ["dice", "some"] ["dice", "some"] (defScope s__law_one_of) := ⟨rfl, rfl, rfl, by decide +kernel, rfl, by decide +kernel, by decide +kernel⟩
abbrev s__law_exact : Stmt := topS 38
theorem sc__law_exact : FnScope ["mine", "theirs", "is_like", "a", "b", "key"] ["mine", "theirs"] (defScope s__law_exact) := ⟨rfl, rfl, rfl, by decide +kernel, rfl, by decide +kernel, by decide +kernel⟩
abbrev s__law_dices : Stmt := topS 39
theorem sc__law_dices : FnScope ["script", "few", "at"] ["script", "few"] (defScope s__law_dices) := ⟨rfl, rfl, rfl, by decide +kernel, rfl, by decide +kernel, by decide +kernel⟩
abbrev s__law_letters : Stmt := topS 40
theorem sc__law_letters : FnScope ["dice", "many", "found", "spin", "late", "sign"] ["dice", "many"] (defScope s__law_letters) := ⟨rfl, rfl, rfl, by decide +kernel, rfl, by decide +kernel, by decide +kernel⟩
abbrev s__law_ground : Stmt := topS 41
theorem sc__law_ground : FnScope ["dice", "most", "some", "many", "signs", "gap", "at"] ["dice", "most"] (defScope s__law_ground) := ⟨rfl, rfl, rfl, by decide +kernel, rfl, by decide +kernel, by decide +kernel⟩
abbrev s__law_repeats : Stmt := topS 42
theorem sc__law_repeats : FnScope ["word", "gap", "period"] ["word", "gap"] (defScope s__law_repeats) := ⟨rfl, rfl, rfl, by decide +kernel, rfl, by decide +kernel, by decide +kernel⟩
abbrev s__law_words_of : Stmt := topS 43
theorem sc__law_words_of : FnScope ["signs", "size", "found", "spin", "longer", "word", "sign"] ["signs", "size"] (defScope s__law_words_of) := ⟨rfl, rfl, rfl, by decide +kernel, rfl, by decide +kernel, by decide +kernel⟩
abbrev s__law_own : Stmt := topS 44
theorem sc__law_own : FnScope ["ground", "word"] ["ground"] (defScope s__law_own) := ⟨rfl, rfl, rfl, by decide +kernel, rfl, by decide +kernel, by decide +kernel⟩
abbrev s__law_behind_at : Stmt := topS 45
theorem sc__law_behind_at : FnScope ["one", "other", "gap", "space"] ["one", "other", "gap"] (defScope s__law_behind_at) := ⟨rfl, rfl, rfl, by decide +kernel, rfl, by decide +kernel, by decide +kernel⟩
abbrev s__law_near : Stmt := topS 46
theorem sc__law_near : FnScope ["one", "other", "gap"] ["one", "other", "gap"] (defScope s__law_near) := ⟨rfl, rfl, rfl, by decide +kernel, rfl, by decide +kernel, by decide +kernel⟩
abbrev s__law_made : Stmt := topS 47
theorem sc__law_made : FnScope ["ground"] ["ground"] (defScope s__law_made) := ⟨rfl, rfl, rfl, by decide +kernel, rfl, by decide +kernel, by decide +kernel⟩
abbrev s__law_power : Stmt := topS 48
theorem sc__law_power : FnScope ["base", "many", "found", "spin"] ["base", "many"] (defScope s__law_power) := ⟨rfl, rfl, rfl, by decide +kernel, rfl, by decide +kernel, by decide +kernel⟩
abbrev s__law_great_ground : Stmt := topS 49
theorem sc__law_great_ground : FnScope ["dice", "most"] ["dice", "most"] (defScope s__law_great_ground) := ⟨rfl, rfl, rfl, by decide +kernel, rfl, by decide +kernel, by decide +kernel⟩
abbrev s__law_great_window : Stmt := topS 50
theorem sc__law_great_window : FnScope ["dice", "ground", "size", "signs", "word", "window", "at", "spin"] ["dice", "ground"] (defScope s__law_great_window) := ⟨rfl, rfl, rfl, by decide +kernel, rfl, by decide +kernel, by decide +kernel⟩
abbrev s__law_many_ground : Stmt := topS 51
theorem sc__law_many_ground : FnScope ["dice"] ["dice"] (defScope s__law_many_ground) := ⟨rfl, rfl, rfl, by decide +kernel, rfl, by decide +kernel, by decide +kernel⟩
abbrev s__law_primitives : Stmt := topS 52
theorem sc__law_primitives : FnScope ["signs", "most", "found", "size", "late"] ["signs", "most"] (defScope s__law_primitives) := ⟨rfl, rfl, rfl, by decide +kernel, rfl, by decide +kernel, by decide +kernel⟩
abbrev s__law_great_right : Stmt := topS 53
theorem sc__law_great_right : FnScope ["dice", "signs", "gap", "many", "due"] ["dice"] (defScope s__law_great_right) := ⟨rfl, rfl, rfl, by decide +kernel, rfl, by decide +kernel, by decide +kernel⟩
abbrev s__law_ground_right : Stmt := topS 54
theorem sc__law_ground_right : FnScope ["ground", "made", "every", "own", "spin", "window", "told", "some", "near"] ["ground"] (defScope s__law_ground_right) := ⟨rfl, rfl, rfl, by decide +kernel, rfl, by decide +kernel, by decide +kernel⟩
abbrev s__law_far_right : Stmt := topS 55
theorem sc__law_far_right : FnScope ["dice", "ground", "made", "spin", "window", "sign"] ["dice"] (defScope s__law_far_right) := ⟨rfl, rfl, rfl, by decide +kernel, rfl, by decide +kernel, by decide +kernel⟩
abbrev s_law : Stmt := topS 56
theorem sc_law : FnScope ["script", "dice", "told", "far", "window", "late"] ["script"] (defScope s_law) := ⟨rfl, rfl, rfl, by decide +kernel, rfl, by decide +kernel, by decide +kernel⟩
abbrev s_init : Stmt := inClass (topS 17) 0
theorem sc_init : FnScope ["self", "signs", "gap"] ["self", "signs", "gap"] (defScope s_init) := ⟨rfl, rfl, rfl, by decide +kernel, rfl, by decide +kernel, by decide +kernel⟩
/-! ### what the top has left -/
structure Top (K : PySem.W.Frag) (mg : Str → Option Value) where
  a_is_whole : Addr
  d_is_whole : FuncData
  m_is_whole : mg "is_whole" = some (.ref a_is_whole)
  f_is_whole : Fun K "is_whole" "is_whole" s_is_whole a_is_whole d_is_whole
  a_is_count : Addr
  d_is_count : FuncData
  m_is_count : mg "is_count" = some (.ref a_is_count)
  f_is_count : FunD K "is_count" "is_count" (defArgs s_is_count) (defBody s_is_count) (defScope s_is_count) [V.non] [] a_is_count d_is_count
  a_is_text : Addr
  d_is_text : FuncData
  m_is_text : mg "is_text" = some (.ref a_is_text)
  f_is_text : Fun K "is_text" "is_text" s_is_text a_is_text d_is_text
  a_is_rising : Addr
  d_is_rising : FuncData
  m_is_rising : mg "is_rising" = some (.ref a_is_rising)
  f_is_rising : Fun K "is_rising" "is_rising" s_is_rising a_is_rising d_is_rising
  a_has : Addr
  d_has : FuncData
  m_has : mg "has" = some (.ref a_has)
  f_has : Fun K "has" "has" s_has a_has d_has
  a_repeats : Addr
  d_repeats : FuncData
  m_repeats : mg "repeats" = some (.ref a_repeats)
  f_repeats : Fun K "repeats" "repeats" s_repeats a_repeats d_repeats
  a_many_words : Addr
  d_many_words : FuncData
  m_many_words : mg "many_words" = some (.ref a_many_words)
  f_many_words : Fun K "many_words" "many_words" s_many_words a_many_words d_many_words
  a_primitives : Addr
  d_primitives : FuncData
  m_primitives : mg "primitives" = some (.ref a_primitives)
  f_primitives : Fun K "primitives" "primitives" s_primitives a_primitives d_primitives
  a_check_ground : Addr
  d_check_ground : FuncData
  m_check_ground : mg "check_ground" = some (.ref a_check_ground)
  f_check_ground : Fun K "check_ground" "check_ground" s_check_ground a_check_ground d_check_ground
  a_is_text_of : Addr
  d_is_text_of : FuncData
  m_is_text_of : mg "is_text_of" = some (.ref a_is_text_of)
  f_is_text_of : Fun K "is_text_of" "is_text_of" s_is_text_of a_is_text_of d_is_text_of
  a_is_window_of : Addr
  d_is_window_of : FuncData
  m_is_window_of : mg "is_window_of" = some (.ref a_is_window_of)
  f_is_window_of : Fun K "is_window_of" "is_window_of" s_is_window_of a_is_window_of d_is_window_of
  a_check_window : Addr
  d_check_window : FuncData
  m_check_window : mg "check_window" = some (.ref a_check_window)
  f_check_window : Fun K "check_window" "check_window" s_check_window a_check_window d_check_window
  a_words_of : Addr
  d_words_of : FuncData
  m_words_of : mg "words_of" = some (.ref a_words_of)
  f_words_of : Fun K "words_of" "words_of" s_words_of a_words_of d_words_of
  a_own_list : Addr
  d_own_list : FuncData
  m_own_list : mg "own_list" = some (.ref a_own_list)
  f_own_list : Fun K "own_list" "own_list" s_own_list a_own_list d_own_list
  a_distances_in : Addr
  d_distances_in : FuncData
  m_distances_in : mg "distances_in" = some (.ref a_distances_in)
  f_distances_in : Fun K "distances_in" "distances_in" s_distances_in a_distances_in d_distances_in
  a_is_near : Addr
  d_is_near : FuncData
  m_is_near : mg "is_near" = some (.ref a_is_near)
  f_is_near : Fun K "is_near" "is_near" s_is_near a_is_near d_is_near
  a_windows : Addr
  d_windows : FuncData
  m_windows : mg "windows" = some (.ref a_windows)
  f_windows : Fun K "windows" "windows" s_windows a_windows d_windows
  a_own_windows : Addr
  d_own_windows : FuncData
  m_own_windows : mg "own_windows" = some (.ref a_own_windows)
  f_own_windows : Fun K "own_windows" "own_windows" s_own_windows a_own_windows d_own_windows
  a_is_own : Addr
  d_is_own : FuncData
  m_is_own : mg "is_own" = some (.ref a_is_own)
  f_is_own : Fun K "is_own" "is_own" s_is_own a_is_own d_is_own
  a_count_own : Addr
  d_count_own : FuncData
  m_count_own : mg "count_own" = some (.ref a_count_own)
  f_count_own : Fun K "count_own" "count_own" s_count_own a_count_own d_count_own
  a_many_own : Addr
  d_many_own : FuncData
  m_many_own : mg "many_own" = some (.ref a_many_own)
  f_many_own : Fun K "many_own" "many_own" s_many_own a_many_own d_many_own
  a_near_ones : Addr
  d_near_ones : FuncData
  m_near_ones : mg "near_ones" = some (.ref a_near_ones)
  f_near_ones : Fun K "near_ones" "near_ones" s_near_ones a_near_ones d_near_ones
  a_next_ones : Addr
  d_next_ones : FuncData
  m_next_ones : mg "next_ones" = some (.ref a_next_ones)
  f_next_ones : Fun K "next_ones" "next_ones" s_next_ones a_next_ones d_next_ones
  a__law_dice : Addr
  d__law_dice : FuncData
  m__law_dice : mg "_law_dice" = some (.ref a__law_dice)
  f__law_dice : Fun K "_law_dice" "_law_dice" s__law_dice a__law_dice d__law_dice
  a__law_mixed : Addr
  d__law_mixed : FuncData
  m__law_mixed : mg "_law_mixed" = some (.ref a__law_mixed)
  f__law_mixed : Fun K "_law_mixed" "_law_mixed" s__law_mixed a__law_mixed d__law_mixed
  a__law_draw : Addr
  d__law_draw : FuncData
  m__law_draw : mg "_law_draw" = some (.ref a__law_draw)
  f__law_draw : Fun K "_law_draw" "_law_draw" s__law_draw a__law_draw d__law_draw
  a__law_one_of : Addr
  d__law_one_of : FuncData
  m__law_one_of : mg "_law_one_of" = some (.ref a__law_one_of)
  f__law_one_of : Fun K "_law_one_of" "_law_one_of" s__law_one_of a__law_one_of d__law_one_of
  a__law_exact : Addr
  d__law_exact : FuncData
  m__law_exact : mg "_law_exact" = some (.ref a__law_exact)
  f__law_exact : Fun K "_law_exact" "_law_exact" s__law_exact a__law_exact d__law_exact
  a__law_dices : Addr
  d__law_dices : FuncData
  m__law_dices : mg "_law_dices" = some (.ref a__law_dices)
  f__law_dices : Fun K "_law_dices" "_law_dices" s__law_dices a__law_dices d__law_dices
  a__law_letters : Addr
  d__law_letters : FuncData
  m__law_letters : mg "_law_letters" = some (.ref a__law_letters)
  f__law_letters : Fun K "_law_letters" "_law_letters" s__law_letters a__law_letters d__law_letters
  a__law_ground : Addr
  d__law_ground : FuncData
  m__law_ground : mg "_law_ground" = some (.ref a__law_ground)
  f__law_ground : Fun K "_law_ground" "_law_ground" s__law_ground a__law_ground d__law_ground
  a__law_repeats : Addr
  d__law_repeats : FuncData
  m__law_repeats : mg "_law_repeats" = some (.ref a__law_repeats)
  f__law_repeats : Fun K "_law_repeats" "_law_repeats" s__law_repeats a__law_repeats d__law_repeats
  a__law_words_of : Addr
  d__law_words_of : FuncData
  m__law_words_of : mg "_law_words_of" = some (.ref a__law_words_of)
  f__law_words_of : Fun K "_law_words_of" "_law_words_of" s__law_words_of a__law_words_of d__law_words_of
  a__law_own : Addr
  d__law_own : FuncData
  m__law_own : mg "_law_own" = some (.ref a__law_own)
  f__law_own : Fun K "_law_own" "_law_own" s__law_own a__law_own d__law_own
  a__law_behind_at : Addr
  d__law_behind_at : FuncData
  m__law_behind_at : mg "_law_behind_at" = some (.ref a__law_behind_at)
  f__law_behind_at : Fun K "_law_behind_at" "_law_behind_at" s__law_behind_at a__law_behind_at d__law_behind_at
  a__law_near : Addr
  d__law_near : FuncData
  m__law_near : mg "_law_near" = some (.ref a__law_near)
  f__law_near : Fun K "_law_near" "_law_near" s__law_near a__law_near d__law_near
  a__law_made : Addr
  d__law_made : FuncData
  m__law_made : mg "_law_made" = some (.ref a__law_made)
  f__law_made : Fun K "_law_made" "_law_made" s__law_made a__law_made d__law_made
  a__law_power : Addr
  d__law_power : FuncData
  m__law_power : mg "_law_power" = some (.ref a__law_power)
  f__law_power : Fun K "_law_power" "_law_power" s__law_power a__law_power d__law_power
  a__law_great_ground : Addr
  d__law_great_ground : FuncData
  m__law_great_ground : mg "_law_great_ground" = some (.ref a__law_great_ground)
  f__law_great_ground : Fun K "_law_great_ground" "_law_great_ground" s__law_great_ground a__law_great_ground d__law_great_ground
  a__law_great_window : Addr
  d__law_great_window : FuncData
  m__law_great_window : mg "_law_great_window" = some (.ref a__law_great_window)
  f__law_great_window : Fun K "_law_great_window" "_law_great_window" s__law_great_window a__law_great_window d__law_great_window
  a__law_many_ground : Addr
  d__law_many_ground : FuncData
  m__law_many_ground : mg "_law_many_ground" = some (.ref a__law_many_ground)
  f__law_many_ground : Fun K "_law_many_ground" "_law_many_ground" s__law_many_ground a__law_many_ground d__law_many_ground
  a__law_primitives : Addr
  d__law_primitives : FuncData
  m__law_primitives : mg "_law_primitives" = some (.ref a__law_primitives)
  f__law_primitives : Fun K "_law_primitives" "_law_primitives" s__law_primitives a__law_primitives d__law_primitives
  a__law_great_right : Addr
  d__law_great_right : FuncData
  m__law_great_right : mg "_law_great_right" = some (.ref a__law_great_right)
  f__law_great_right : Fun K "_law_great_right" "_law_great_right" s__law_great_right a__law_great_right d__law_great_right
  a__law_ground_right : Addr
  d__law_ground_right : FuncData
  m__law_ground_right : mg "_law_ground_right" = some (.ref a__law_ground_right)
  f__law_ground_right : Fun K "_law_ground_right" "_law_ground_right" s__law_ground_right a__law_ground_right d__law_ground_right
  a__law_far_right : Addr
  d__law_far_right : FuncData
  m__law_far_right : mg "_law_far_right" = some (.ref a__law_far_right)
  f__law_far_right : Fun K "_law_far_right" "_law_far_right" s__law_far_right a__law_far_right d__law_far_right
  a_law : Addr
  d_law : FuncData
  m_law : mg "law" = some (.ref a_law)
  f_law : Fun K "law" "law" s_law a_law d_law
  g_all : mg "all" = none
  g_any : mg "any" = none
  g_bool : mg "bool" = none
  g_dict : mg "dict" = none
  g_int : mg "int" = none
  g_isinstance : mg "isinstance" = none
  g_len : mg "len" = none
  g_list : mg "list" = none
  g_max : mg "max" = none
  g_min : mg "min" = none
  g_range : mg "range" = none
  g_sorted : mg "sorted" = none
  g_str : mg "str" = none
  g_sum : mg "sum" = none
  g_tuple : mg "tuple" = none
  g_zip : mg "zip" = none
  C_Ground : Addr
  m_Ground : mg "Ground" = some (.ref C_Ground)
  F_Ground : GndF K C_Ground
  a_init : Addr
  d_init : FuncData
  f_init : Fun K "__init__" "Ground.__init__" s_init a_init d_init
  mk_Ground : Mk K C_Ground a_init
  bind_law : ∀ (s : Shared) (v : Value), BindsTo s d_law ⟨[v], []⟩ [("script", v)]
section
variable {κ : Kit} {P : Program} {w : World} {K : PySem.W.Frag} {mg : Str → Option Value} {base : Heap}
theorem b_is_whole (T : Top K mg) : Binds K T.d_is_whole ["value"] [] := T.f_is_whole.binds fun _ _ _ _ _ _ us hl => match us, hl with | [_], _ => rfl
theorem b_is_count_0 (T : Top K mg) : ∃ ds, Vals [] ds ∧ Binds K T.d_is_count ["value", "most"] ds := T.f_is_count.binds1 (ps := ["value", "most"]) 2 1 (by simp) rfl fun T kV doc pm an cdv ct us its hl hi => match us, its, hl, hi with | [_, _], [_], _, _ => ⟨_, rfl, rfl⟩
theorem b_is_count_1 (T : Top K mg) : ∃ ds, Vals [V.non] ds ∧ Binds K T.d_is_count ["value", "most"] ds := T.f_is_count.binds1 (ps := ["value", "most"]) 1 0 (by simp) rfl fun T kV doc pm an cdv ct us its hl hi => match us, its, hl, hi with | [_], [_], _, _ => ⟨_, rfl, rfl⟩
theorem b_is_text (T : Top K mg) : Binds K T.d_is_text ["value"] [] := T.f_is_text.binds fun _ _ _ _ _ _ us hl => match us, hl with | [_], _ => rfl
theorem b_is_rising (T : Top K mg) : Binds K T.d_is_rising ["things"] [] := T.f_is_rising.binds fun _ _ _ _ _ _ us hl => match us, hl with | [_], _ => rfl
theorem b_has (T : Top K mg) : Binds K T.d_has ["text", "period"] [] := T.f_has.binds fun _ _ _ _ _ _ us hl => match us, hl with | [_, _], _ => rfl
theorem b_repeats (T : Top K mg) : Binds K T.d_repeats ["word", "gap"] [] := T.f_repeats.binds fun _ _ _ _ _ _ us hl => match us, hl with | [_, _], _ => rfl
theorem b_many_words (T : Top K mg) : Binds K T.d_many_words ["signs", "length"] [] := T.f_many_words.binds fun _ _ _ _ _ _ us hl => match us, hl with | [_, _], _ => rfl
theorem b_primitives (T : Top K mg) : Binds K T.d_primitives ["signs", "length"] [] := T.f_primitives.binds fun _ _ _ _ _ _ us hl => match us, hl with | [_, _], _ => rfl
theorem b_check_ground (T : Top K mg) : Binds K T.d_check_ground ["value"] [] := T.f_check_ground.binds fun _ _ _ _ _ _ us hl => match us, hl with | [_], _ => rfl
theorem b_is_text_of (T : Top K mg) : Binds K T.d_is_text_of ["ground", "value"] [] := T.f_is_text_of.binds fun _ _ _ _ _ _ us hl => match us, hl with | [_, _], _ => rfl
theorem b_is_window_of (T : Top K mg) : Binds K T.d_is_window_of ["ground", "value"] [] := T.f_is_window_of.binds fun _ _ _ _ _ _ us hl => match us, hl with | [_, _], _ => rfl
theorem b_check_window (T : Top K mg) : Binds K T.d_check_window ["ground", "value"] [] := T.f_check_window.binds fun _ _ _ _ _ _ us hl => match us, hl with | [_, _], _ => rfl
theorem b_words_of (T : Top K mg) : Binds K T.d_words_of ["signs", "size"] [] := T.f_words_of.binds fun _ _ _ _ _ _ us hl => match us, hl with | [_, _], _ => rfl
theorem b_own_list (T : Top K mg) : Binds K T.d_own_list ["ground"] [] := T.f_own_list.binds fun _ _ _ _ _ _ us hl => match us, hl with | [_], _ => rfl
theorem b_distances_in (T : Top K mg) : Binds K T.d_distances_in ["one", "other", "gap"] [] := T.f_distances_in.binds fun _ _ _ _ _ _ us hl => match us, hl with | [_, _, _], _ => rfl
theorem b_is_near (T : Top K mg) : Binds K T.d_is_near ["one", "other", "gap"] [] := T.f_is_near.binds fun _ _ _ _ _ _ us hl => match us, hl with | [_, _, _], _ => rfl
theorem b_windows (T : Top K mg) : Binds K T.d_windows ["ground"] [] := T.f_windows.binds fun _ _ _ _ _ _ us hl => match us, hl with | [_], _ => rfl
theorem b_own_windows (T : Top K mg) : Binds K T.d_own_windows ["ground"] [] := T.f_own_windows.binds fun _ _ _ _ _ _ us hl => match us, hl with | [_], _ => rfl
theorem b_is_own (T : Top K mg) : Binds K T.d_is_own ["ground", "window"] [] := T.f_is_own.binds fun _ _ _ _ _ _ us hl => match us, hl with | [_, _], _ => rfl
theorem b_count_own (T : Top K mg) : Binds K T.d_count_own ["ground"] [] := T.f_count_own.binds fun _ _ _ _ _ _ us hl => match us, hl with | [_], _ => rfl
theorem b_many_own (T : Top K mg) : Binds K T.d_many_own ["ground"] [] := T.f_many_own.binds fun _ _ _ _ _ _ us hl => match us, hl with | [_], _ => rfl
theorem b_near_ones (T : Top K mg) : Binds K T.d_near_ones ["ground", "window"] [] := T.f_near_ones.binds fun _ _ _ _ _ _ us hl => match us, hl with | [_, _], _ => rfl
theorem b_next_ones (T : Top K mg) : Binds K T.d_next_ones ["ground", "window"] [] := T.f_next_ones.binds fun _ _ _ _ _ _ us hl => match us, hl with | [_, _], _ => rfl
theorem b__law_dice (T : Top K mg) : Binds K T.d__law_dice ["script", "at"] [] := T.f__law_dice.binds fun _ _ _ _ _ _ us hl => match us, hl with | [_, _], _ => rfl
theorem b__law_mixed (T : Top K mg) : Binds K T.d__law_mixed ["seed", "spin", "at"] [] := T.f__law_mixed.binds fun _ _ _ _ _ _ us hl => match us, hl with | [_, _, _], _ => rfl
theorem b__law_draw (T : Top K mg) : Binds K T.d__law_draw ["dice", "many"] [] := T.f__law_draw.binds fun _ _ _ _ _ _ us hl => match us, hl with | [_, _], _ => rfl
theorem b__law_one_of (T : Top K mg) : Binds K T.d__law_one_of ["dice", "some"] [] := T.f__law_one_of.binds fun _ _ _ _ _ _ us hl => match us, hl with | [_, _], _ => rfl
theorem b__law_exact (T : Top K mg) : Binds K T.d__law_exact ["mine", "theirs"] [] := T.f__law_exact.binds fun _ _ _ _ _ _ us hl => match us, hl with | [_, _], _ => rfl
theorem b__law_dices (T : Top K mg) : Binds K T.d__law_dices ["script", "few"] [] := T.f__law_dices.binds fun _ _ _ _ _ _ us hl => match us, hl with | [_, _], _ => rfl
theorem b__law_letters (T : Top K mg) : Binds K T.d__law_letters ["dice", "many"] [] := T.f__law_letters.binds fun _ _ _ _ _ _ us hl => match us, hl with | [_, _], _ => rfl
theorem b__law_ground (T : Top K mg) : Binds K T.d__law_ground ["dice", "most"] [] := T.f__law_ground.binds fun _ _ _ _ _ _ us hl => match us, hl with | [_, _], _ => rfl
theorem b__law_repeats (T : Top K mg) : Binds K T.d__law_repeats ["word", "gap"] [] := T.f__law_repeats.binds fun _ _ _ _ _ _ us hl => match us, hl with | [_, _], _ => rfl
theorem b__law_words_of (T : Top K mg) : Binds K T.d__law_words_of ["signs", "size"] [] := T.f__law_words_of.binds fun _ _ _ _ _ _ us hl => match us, hl with | [_, _], _ => rfl
theorem b__law_own (T : Top K mg) : Binds K T.d__law_own ["ground"] [] := T.f__law_own.binds fun _ _ _ _ _ _ us hl => match us, hl with | [_], _ => rfl
theorem b__law_behind_at (T : Top K mg) : Binds K T.d__law_behind_at ["one", "other", "gap"] [] := T.f__law_behind_at.binds fun _ _ _ _ _ _ us hl => match us, hl with | [_, _, _], _ => rfl
theorem b__law_near (T : Top K mg) : Binds K T.d__law_near ["one", "other", "gap"] [] := T.f__law_near.binds fun _ _ _ _ _ _ us hl => match us, hl with | [_, _, _], _ => rfl
theorem b__law_made (T : Top K mg) : Binds K T.d__law_made ["ground"] [] := T.f__law_made.binds fun _ _ _ _ _ _ us hl => match us, hl with | [_], _ => rfl
theorem b__law_power (T : Top K mg) : Binds K T.d__law_power ["base", "many"] [] := T.f__law_power.binds fun _ _ _ _ _ _ us hl => match us, hl with | [_, _], _ => rfl
theorem b__law_great_ground (T : Top K mg) : Binds K T.d__law_great_ground ["dice", "most"] [] := T.f__law_great_ground.binds fun _ _ _ _ _ _ us hl => match us, hl with | [_, _], _ => rfl
theorem b__law_great_window (T : Top K mg) : Binds K T.d__law_great_window ["dice", "ground"] [] := T.f__law_great_window.binds fun _ _ _ _ _ _ us hl => match us, hl with | [_, _], _ => rfl
theorem b__law_many_ground (T : Top K mg) : Binds K T.d__law_many_ground ["dice"] [] := T.f__law_many_ground.binds fun _ _ _ _ _ _ us hl => match us, hl with | [_], _ => rfl
theorem b__law_primitives (T : Top K mg) : Binds K T.d__law_primitives ["signs", "most"] [] := T.f__law_primitives.binds fun _ _ _ _ _ _ us hl => match us, hl with | [_, _], _ => rfl
theorem b__law_great_right (T : Top K mg) : Binds K T.d__law_great_right ["dice"] [] := T.f__law_great_right.binds fun _ _ _ _ _ _ us hl => match us, hl with | [_], _ => rfl
theorem b__law_ground_right (T : Top K mg) : Binds K T.d__law_ground_right ["ground"] [] := T.f__law_ground_right.binds fun _ _ _ _ _ _ us hl => match us, hl with | [_], _ => rfl
theorem b__law_far_right (T : Top K mg) : Binds K T.d__law_far_right ["dice"] [] := T.f__law_far_right.binds fun _ _ _ _ _ _ us hl => match us, hl with | [_], _ => rfl
theorem b_law (T : Top K mg) : Binds K T.d_law ["script"] [] := T.f_law.binds fun _ _ _ _ _ _ us hl => match us, hl with | [_], _ => rfl
theorem ok_is_whole (T : Top K mg) {F : FC} (hF : ∀ ds n Q, F ds n Q → ds.length = 1 → rd_is_whole { nx := fun _ m => Q (.val .non) m, rt := Q } (startE 0 ds) n) (hk : κ.K = K) : FnOk P w K mg base CX0 (0 + 1) T.a_is_whole T.d_is_whole ["value"] (spD κ 1 F) := by
  subst hk
  refine fn_dl T.f_is_whole sc_is_whole (fun cdv A outer s H E hr => ?_) hF
  exact (ds_one (d1_ret (de_and (e_isi .int T.g_isinstance T.g_int (v 0)) (de_one (de_not (e_isi .bool T.g_isinstance T.g_bool (v 0)))))))
theorem cal_is_whole {k : Nat} {F : FC} (T : Top K mg) (h : FnOk P w K mg base CX0 k T.a_is_whole T.d_is_whole ["value"] (spD κ 1 F)) : Cal κ P w K mg base "is_whole" k 1 F [] := ⟨_, _, _, [], [], h, T.m_is_whole, T.f_is_whole.kp, b_is_whole T, .nil, fun _ _ => .nil⟩
theorem ok_is_count (T : Top K mg) {F_is_whole : FC} (c_is_whole : Cal κ P w K mg base "is_whole" 1 1 F_is_whole []) {F : FC} (hF : ∀ ds n Q, F ds n Q → ds.length = 2 → rd_is_count F_is_whole { nx := fun _ m => Q (.val .non) m, rt := Q } (startE 0 ds) n) (hk : κ.K = K) : FnOk P w K mg base CX0 (1 + 1) T.a_is_count T.d_is_count ["value", "most"] (spD κ 2 F) := by
  subst hk
  refine fn_dlD T.f_is_count sc_is_count (fun cdv A outer s H E hr => ?_) hF
  exact (ds_one (d1_ret (de_and (DX.de (dx_call c_is_whole hr (da_cons (v 0) da_nil))) (de_and (e_ge (v 0) de_int) (de_one (de_or (e_isN (v 1) de_non) (de_one (e_le (v 0) (v 1)))))))))
theorem cal_is_count_0 {k : Nat} {F : FC} (T : Top K mg) (h : FnOk P w K mg base CX0 k T.a_is_count T.d_is_count ["value", "most"] (spD κ 2 F)) : Cal κ P w K mg base "is_count" k 2 F [] := by
  obtain ⟨ds, h1, h2⟩ := b_is_count_0 T
  exact ⟨_, _, _, [], ds, h, T.m_is_count, T.f_is_count.kp, h2, h1, fun _ _ => .nil⟩
theorem cal_is_count_1 {k : Nat} {F : FC} (T : Top K mg) (h : FnOk P w K mg base CX0 k T.a_is_count T.d_is_count ["value", "most"] (spD κ 2 F)) : Cal κ P w K mg base "is_count" k 2 F [.non] := by
  obtain ⟨ds, h1, h2⟩ := b_is_count_1 T
  exact ⟨_, _, _, [V.non], ds, h, T.m_is_count, T.f_is_count.kp, h2, h1, fun _ _ => .cons .non (.nil)⟩
theorem ok_is_text (T : Top K mg) {F : FC} (hF : ∀ ds n Q, F ds n Q → ds.length = 1 → rd_is_text { nx := fun _ m => Q (.val .non) m, rt := Q } (startE 1 ds) n) (hk : κ.K = K) : FnOk P w K mg base CX0 (0 + 1) T.a_is_text T.d_is_text ["value"] (spD κ 1 F) := by
  subst hk
  refine fn_dl T.f_is_text sc_is_text (fun cdv A outer s H E hr => ?_) hF
  exact (ds_one (d1_ret (de_and (e_isi .str T.g_isinstance T.g_str (v 0)) (de_one (e_all T.g_all (DO.fr (o_comp [("sign", 1)] sc_is_text.nd (i_name 0) (fun _ _ _ _ _ => (G_n 1 sc_is_text.nd)) (fun _ _ _ _ _ => dts_nil) (fun _ _ _ _ _ => (e_chain cr_le cr_le (c_str [97]) (v 1) (c_str [122]))))))))))
theorem cal_is_text {k : Nat} {F : FC} (T : Top K mg) (h : FnOk P w K mg base CX0 k T.a_is_text T.d_is_text ["value"] (spD κ 1 F)) : Cal κ P w K mg base "is_text" k 1 F [] := ⟨_, _, _, [], [], h, T.m_is_text, T.f_is_text.kp, b_is_text T, .nil, fun _ _ => .nil⟩
theorem ok_is_rising (T : Top K mg) {F : FC} (hF : ∀ ds n Q, F ds n Q → ds.length = 1 → rd_is_rising { nx := fun _ m => Q (.val .non) m, rt := Q } (startE 1 ds) n) (hk : κ.K = K) : FnOk P w K mg base CX0 (0 + 1) T.a_is_rising T.d_is_rising ["things"] (spD κ 1 F) := by
  subst hk
  refine fn_dl T.f_is_rising sc_is_rising (fun cdv A outer s H E hr => ?_) hF
  exact (ds_one (d1_ret (e_all T.g_all (DO.fr (o_comp [("at", 1)] sc_is_rising.nd (i_r2 T.g_range de_int (e_len T.g_len (v 0))) (fun _ _ _ _ _ => (G_n 1 sc_is_rising.nd)) (fun _ _ _ _ _ => dts_nil) (fun _ _ _ _ _ => (e_lt (e_ix hr (v 0) (e_sub (v 1) de_int)) (e_ix hr (v 0) (v 1)))))))))
theorem cal_is_rising {k : Nat} {F : FC} (T : Top K mg) (h : FnOk P w K mg base CX0 k T.a_is_rising T.d_is_rising ["things"] (spD κ 1 F)) : Cal κ P w K mg base "is_rising" k 1 F [] := ⟨_, _, _, [], [], h, T.m_is_rising, T.f_is_rising.kp, b_is_rising T, .nil, fun _ _ => .nil⟩
theorem ok_has (T : Top K mg) {F : FC} (hF : ∀ ds n Q, F ds n Q → ds.length = 2 → rd_has { nx := fun _ m => Q (.val .non) m, rt := Q } (startE 0 ds) n) (hk : κ.K = K) : FnOk P w K mg base CX0 (0 + 1) T.a_has T.d_has ["text", "period"] (spD κ 2 F) := by
  subst hk
  refine fn_dl T.f_has sc_has (fun cdv A outer s H E hr => ?_) hF
  exact (ds_one (d1_ret (de_and (e_lt (v 1) (e_len T.g_len (v 0))) (de_one (e_eq hr (e_sl (v 0) (dp_some (v 1)) dp_none) (e_sl (v 0) dp_none (dp_some (e_sub (e_len T.g_len (v 0)) (v 1)))))))))
theorem cal_has {k : Nat} {F : FC} (T : Top K mg) (h : FnOk P w K mg base CX0 k T.a_has T.d_has ["text", "period"] (spD κ 2 F)) : Cal κ P w K mg base "has" k 2 F [] := ⟨_, _, _, [], [], h, T.m_has, T.f_has.kp, b_has T, .nil, fun _ _ => .nil⟩
theorem ok_repeats (T : Top K mg) {F_has : FC} (c_has : Cal κ P w K mg base "has" 1 2 F_has []) {F : FC} (hF : ∀ ds n Q, F ds n Q → ds.length = 2 → rd_repeats F_has { nx := fun _ m => Q (.val .non) m, rt := Q } (startE 1 ds) n) (hk : κ.K = K) : FnOk P w K mg base CX0 (1 + 1) T.a_repeats T.d_repeats ["word", "gap"] (spD κ 2 F) := by
  subst hk
  refine fn_dl T.f_repeats sc_repeats (fun cdv A outer s H E hr => ?_) hF
  exact (ds_one (d1_ret (e_any T.g_any (DO.fr (o_comp [("period", 2)] sc_repeats.nd (i_r2 T.g_range de_int (e_min T.g_min (da_cons (v 1) (da_cons (e_len T.g_len (v 0)) da_nil)))) (fun _ _ _ _ _ => (G_n 2 sc_repeats.nd)) (fun _ _ _ _ _ => dts_nil) (fun _ _ _ _ _ => (DX.de (dx_call c_has hr (da_cons (v 0) (da_cons (v 2) da_nil))))))))))
theorem cal_repeats {k : Nat} {F : FC} (T : Top K mg) (h : FnOk P w K mg base CX0 k T.a_repeats T.d_repeats ["word", "gap"] (spD κ 2 F)) : Cal κ P w K mg base "repeats" k 2 F [] := ⟨_, _, _, [], [], h, T.m_repeats, T.f_repeats.kp, b_repeats T, .nil, fun _ _ => .nil⟩
theorem ok_many_words (T : Top K mg) {F : FC} (hF : ∀ ds n Q, F ds n Q → ds.length = 2 → rd_many_words { nx := fun _ m => Q (.val .non) m, rt := Q } (startE 2 ds) n) (hk : κ.K = K) : FnOk P w K mg base CX0 (0 + 1) T.a_many_words T.d_many_words ["signs", "length"] (spD κ 2 F) := by
  subst hk
  refine fn_dl T.f_many_words sc_many_words (fun cdv A outer s H E hr => ?_) hF
  exact (ds_cons (S_asg 2 sc_many_words.nd de_int) (ds_cons (S_for (i_r1 T.g_range (v 1)) (N_n 3 sc_many_words.nd) (ds_one (S_augM 2 sc_many_words.nd (v 0)))) (ds_one (d1_ret (v 2)))))
theorem cal_many_words {k : Nat} {F : FC} (T : Top K mg) (h : FnOk P w K mg base CX0 k T.a_many_words T.d_many_words ["signs", "length"] (spD κ 2 F)) : Cal κ P w K mg base "many_words" k 2 F [] := ⟨_, _, _, [], [], h, T.m_many_words, T.f_many_words.kp, b_many_words T, .nil, fun _ _ => .nil⟩
theorem ok_primitives (T : Top K mg) {F_many_words : FC} (c_many_words : Cal κ P w K mg base "many_words" 1 2 F_many_words []) {F : FC} (hF : ∀ ds n Q, F ds n Q → ds.length = 2 → rd_primitives F_many_words { nx := fun _ m => Q (.val .non) m, rt := Q } (startE 3 ds) n) (hk : κ.K = K) : FnOk P w K mg base CX0 (1 + 1) T.a_primitives T.d_primitives ["signs", "length"] (spD κ 2 F) := by
  subst hk
  refine fn_dl T.f_primitives sc_primitives (fun cdv A outer s H E hr => ?_) hF
  exact (ds_cons (S_dct 2 sc_primitives.nd) (ds_cons (S_for (i_r2 T.g_range de_int (e_add (v 1) de_int)) (N_n 3 sc_primitives.nd) (ds_one (d1_if (t_eq hr (e_mod (v 1) (v 3)) de_int) (ds_one (S_setDV 2 hr (e_sub (DX.de (dx_call c_many_words hr (da_cons (v 0) (da_cons (v 3) da_nil)))) (e_sum T.g_sum (DO.fr (o_comp [("late", 4)] sc_primitives.nd (i_name 2) (fun _ _ _ _ _ => (G_n 4 sc_primitives.nd)) (fun _ _ _ _ _ => (dts_one (t_eq hr (e_mod (v 3) (v 4)) de_int))) (fun _ _ _ _ _ => (e_ix hr (v 2) (v 4))))))) (v 3))) ds_nil))) (ds_one (d1_retV (e_ix hr (v 2) (v 1))))))
theorem cal_primitives {k : Nat} {F : FC} (T : Top K mg) (h : FnOk P w K mg base CX0 k T.a_primitives T.d_primitives ["signs", "length"] (spD κ 2 F)) : Cal κ P w K mg base "primitives" k 2 F [] := ⟨_, _, _, [], [], h, T.m_primitives, T.f_primitives.kp, b_primitives T, .nil, fun _ _ => .nil⟩
theorem ok_check_ground (T : Top K mg) {cv : CV} (hG : HasGnd κ T.C_Ground cv) {F : FC} (hF : ∀ ds n Q, F ds n Q → ds.length = 1 → rd_check_ground { nx := fun _ m => Q (.val .non) m, rt := Q } (startE 0 ds) n) (hk : κ.K = K) : FnOk P w K mg base CX0 (0 + 1) T.a_check_ground T.d_check_ground ["value"] (spD κ 1 F) := by
  subst hk
  refine fn_dl T.f_check_ground sc_check_ground (fun cdv A outer s H E hr => ?_) hF
  exact (ds_one (d1_if (dt_not (dt_val (e_isG hG T.F_Ground T.g_isinstance T.m_Ground (v 0)))) (ds_one d1_never) ds_nil))
theorem cal_check_ground {k : Nat} {F : FC} (T : Top K mg) (h : FnOk P w K mg base CX0 k T.a_check_ground T.d_check_ground ["value"] (spD κ 1 F)) : Cal κ P w K mg base "check_ground" k 1 F [] := ⟨_, _, _, [], [], h, T.m_check_ground, T.f_check_ground.kp, b_check_ground T, .nil, fun _ _ => .nil⟩
theorem ok_is_text_of (T : Top K mg) {cv : CV} (hG : HasGnd κ T.C_Ground cv) {F : FC} (hF : ∀ ds n Q, F ds n Q → ds.length = 2 → rd_is_text_of { nx := fun _ m => Q (.val .non) m, rt := Q } (startE 1 ds) n) (hk : κ.K = K) : FnOk P w K mg base CX0 (0 + 1) T.a_is_text_of T.d_is_text_of ["ground", "value"] (spD κ 2 F) := by
  subst hk
  refine fn_dl T.f_is_text_of sc_is_text_of (fun cdv A outer s H E hr => ?_) hF
  exact (ds_one (d1_ret (de_and (e_isi .str T.g_isinstance T.g_str (v 1)) (de_one (e_all T.g_all (DO.fr (o_comp [("sign", 2)] sc_is_text_of.nd (i_name 1) (fun _ _ _ _ _ => (G_n 2 sc_is_text_of.nd)) (fun _ _ _ _ _ => dts_nil) (fun _ _ _ _ _ => (e_in hr (v 2) (e_row hG T.F_Ground (v 0)))))))))))
theorem cal_is_text_of {k : Nat} {F : FC} (T : Top K mg) (h : FnOk P w K mg base CX0 k T.a_is_text_of T.d_is_text_of ["ground", "value"] (spD κ 2 F)) : Cal κ P w K mg base "is_text_of" k 2 F [] := ⟨_, _, _, [], [], h, T.m_is_text_of, T.f_is_text_of.kp, b_is_text_of T, .nil, fun _ _ => .nil⟩
theorem ok_is_window_of (T : Top K mg) {F_is_text_of : FC} (c_is_text_of : Cal κ P w K mg base "is_text_of" 1 2 F_is_text_of []) {cv : CV} (hG : HasGnd κ T.C_Ground cv) {F : FC} (hF : ∀ ds n Q, F ds n Q → ds.length = 2 → rd_is_window_of F_is_text_of { nx := fun _ m => Q (.val .non) m, rt := Q } (startE 0 ds) n) (hk : κ.K = K) : FnOk P w K mg base CX0 (1 + 1) T.a_is_window_of T.d_is_window_of ["ground", "value"] (spD κ 2 F) := by
  subst hk
  refine fn_dl T.f_is_window_of sc_is_window_of (fun cdv A outer s H E hr => ?_) hF
  exact (ds_one (d1_ret (de_and (DX.de (dx_call c_is_text_of hr (da_cons (v 0) (da_cons (v 1) da_nil)))) (de_one (e_eq hr (e_len T.g_len (v 1)) (e_span hG T.F_Ground (v 0)))))))
theorem cal_is_window_of {k : Nat} {F : FC} (T : Top K mg) (h : FnOk P w K mg base CX0 k T.a_is_window_of T.d_is_window_of ["ground", "value"] (spD κ 2 F)) : Cal κ P w K mg base "is_window_of" k 2 F [] := ⟨_, _, _, [], [], h, T.m_is_window_of, T.f_is_window_of.kp, b_is_window_of T, .nil, fun _ _ => .nil⟩
theorem ok_check_window (T : Top K mg) {F_is_window_of : FC} (c_is_window_of : Cal κ P w K mg base "is_window_of" 2 2 F_is_window_of []) {F : FC} (hF : ∀ ds n Q, F ds n Q → ds.length = 2 → rd_check_window F_is_window_of { nx := fun _ m => Q (.val .non) m, rt := Q } (startE 0 ds) n) (hk : κ.K = K) : FnOk P w K mg base CX0 (2 + 1) T.a_check_window T.d_check_window ["ground", "value"] (spD κ 2 F) := by
  subst hk
  refine fn_dl T.f_check_window sc_check_window (fun cdv A outer s H E hr => ?_) hF
  exact (ds_one (d1_if (dt_not (dt_tru (DX.de (dx_call c_is_window_of hr (da_cons (v 0) (da_cons (v 1) da_nil)))))) (ds_one d1_never) ds_nil))
theorem cal_check_window {k : Nat} {F : FC} (T : Top K mg) (h : FnOk P w K mg base CX0 k T.a_check_window T.d_check_window ["ground", "value"] (spD κ 2 F)) : Cal κ P w K mg base "check_window" k 2 F [] := ⟨_, _, _, [], [], h, T.m_check_window, T.f_check_window.kp, b_check_window T, .nil, fun _ _ => .nil⟩
theorem ok_words_of (T : Top K mg) {F : FC} (hF : ∀ ds n Q, F ds n Q → ds.length = 2 → rd_words_of { nx := fun _ m => Q (.val .non) m, rt := Q } (startE 4 ds) n) (hk : κ.K = K) : FnOk P w K mg base CX0 (0 + 1) T.a_words_of T.d_words_of ["signs", "size"] (spD κ 2 F) := by
  subst hk
  refine fn_dl T.f_words_of sc_words_of (fun cdv A outer s H E hr => ?_) hF
  exact (ds_cons (S_asgO 2 sc_words_of.nd (do_lst (da_cons (c_str []) da_nil))) (ds_cons (S_for (i_r1 T.g_range (v 1)) (N_n 3 sc_words_of.nd) (ds_one (S_lc2V 2 [("word", 4), ("sign", 5)] [5] sc_words_of.nd (i0_seq (v 2)) (fun _ _ _ _ _ => (G_n 4 sc_words_of.nd)) (fun _ _ _ _ _ => dts_nil) (fun _ _ _ _ _ => (i0_seq (v 0))) (fun _ _ _ _ _ => (G_n 5 sc_words_of.nd)) (fun _ _ _ _ _ => dts_nil) (fun _ _ _ _ _ => (e_add (v 4) (v 5)))))) (ds_one (S_retS 2))))
theorem cal_words_of {k : Nat} {F : FC} (T : Top K mg) (h : FnOk P w K mg base CX0 k T.a_words_of T.d_words_of ["signs", "size"] (spD κ 2 F)) : Cal κ P w K mg base "words_of" k 2 F [] := ⟨_, _, _, [], [], h, T.m_words_of, T.f_words_of.kp, b_words_of T, .nil, fun _ _ => .nil⟩
theorem ok_own_list (T : Top K mg) {F_repeats : FC} {F_words_of : FC} (c_repeats : Cal κ P w K mg base "repeats" 2 2 F_repeats []) (c_words_of : Cal κ P w K mg base "words_of" 1 2 F_words_of []) {cv : CV} (hG : HasGnd κ T.C_Ground cv) {F : FC} (hF : ∀ ds n Q, F ds n Q → ds.length = 1 → rd_own_list cv F_repeats F_words_of { nx := fun _ m => Q (.val .non) m, rt := Q } (startE 2 ds) n) (hk : κ.K = K) : FnOk P w K mg base CX0 (2 + 1) T.a_own_list T.d_own_list ["ground"] (spD κ 1 F) := by
  subst hk
  refine fn_dl T.f_own_list sc_own_list (fun cdv A outer s H E hr => ?_) hF
  exact (ds_own 0 hG T.F_Ground rfl hr rfl T.g_list rfl (by first | exact Or.inl rfl | exact Or.inr (Or.inl rfl) | exact Or.inr (Or.inr rfl)) (S_asg 1 sc_own_list.nd (DX.de (dx_call c_words_of hr (da_cons (e_row hG T.F_Ground (v 0)) (da_cons (e_span hG T.F_Ground (v 0)) da_nil))))) (o_comp [("window", 2)] sc_own_list.nd (i_name 1) (fun _ _ _ _ _ => (G_n 2 sc_own_list.nd)) (fun _ _ _ _ _ => (dts_one (dt_not (dt_tru (DX.de (dx_call c_repeats hr (da_cons (v 2) (da_cons (e_least hG T.F_Ground (v 0)) da_nil)))))))) (fun _ _ _ _ _ => (v 2))))
theorem cal_own_list {k : Nat} {F : FC} (T : Top K mg) (h : FnOk P w K mg base CX0 k T.a_own_list T.d_own_list ["ground"] (spD κ 1 F)) : Cal κ P w K mg base "own_list" k 1 F [] := ⟨_, _, _, [], [], h, T.m_own_list, T.f_own_list.kp, b_own_list T, .nil, fun _ _ => .nil⟩
theorem ok_distances_in (T : Top K mg) {F : FC} (hF : ∀ ds n Q, F ds n Q → ds.length = 3 → rd_distances_in { nx := fun _ m => Q (.val .non) m, rt := Q } (startE 1 ds) n) (hk : κ.K = K) : FnOk P w K mg base CX0 (0 + 1) T.a_distances_in T.d_distances_in ["one", "other", "gap"] (spD κ 3 F) := by
  subst hk
  refine fn_dl T.f_distances_in sc_distances_in (fun cdv A outer s H E hr => ?_) hF
  exact (ds_one (d1_retO (o_comp [("space", 3)] sc_distances_in.nd (i_r2 T.g_range de_int (v 2)) (fun _ _ _ _ _ => (G_n 3 sc_distances_in.nd)) (fun _ _ _ _ _ => (dts_one (t_eq hr (e_sl (v 0) (dp_some (v 3)) dp_none) (e_sl (v 1) dp_none (dp_some (e_sub (e_len T.g_len (v 0)) (v 3))))))) (fun _ _ _ _ _ => (v 3)))))
theorem cal_distances_in {k : Nat} {F : FC} (T : Top K mg) (h : FnOk P w K mg base CX0 k T.a_distances_in T.d_distances_in ["one", "other", "gap"] (spD κ 3 F)) : Cal κ P w K mg base "distances_in" k 3 F [] := ⟨_, _, _, [], [], h, T.m_distances_in, T.f_distances_in.kp, b_distances_in T, .nil, fun _ _ => .nil⟩
theorem ok_is_near (T : Top K mg) {F_distances_in : FC} (c_distances_in : Cal κ P w K mg base "distances_in" 1 3 F_distances_in []) {F : FC} (hF : ∀ ds n Q, F ds n Q → ds.length = 3 → rd_is_near F_distances_in { nx := fun _ m => Q (.val .non) m, rt := Q } (startE 0 ds) n) (hk : κ.K = K) : FnOk P w K mg base CX0 (1 + 1) T.a_is_near T.d_is_near ["one", "other", "gap"] (spD κ 3 F) := by
  subst hk
  refine fn_dl T.f_is_near sc_is_near (fun cdv A outer s H E hr => ?_) hF
  exact (ds_one (d1_ret (de_or (e_ne hr (DX.de (dx_call c_distances_in hr (da_cons (v 0) (da_cons (v 1) (da_cons (v 2) da_nil))))) (DO.fr (do_lst da_nil))) (de_one (e_ne hr (DX.de (dx_call c_distances_in hr (da_cons (v 1) (da_cons (v 0) (da_cons (v 2) da_nil))))) (DO.fr (do_lst da_nil)))))))
theorem cal_is_near {k : Nat} {F : FC} (T : Top K mg) (h : FnOk P w K mg base CX0 k T.a_is_near T.d_is_near ["one", "other", "gap"] (spD κ 3 F)) : Cal κ P w K mg base "is_near" k 3 F [] := ⟨_, _, _, [], [], h, T.m_is_near, T.f_is_near.kp, b_is_near T, .nil, fun _ _ => .nil⟩
theorem ok_windows (T : Top K mg) {F_check_ground : FC} {F_words_of : FC} (c_check_ground : Cal κ P w K mg base "check_ground" 1 1 F_check_ground []) (c_words_of : Cal κ P w K mg base "words_of" 1 2 F_words_of []) {cv : CV} (hG : HasGnd κ T.C_Ground cv) {F : FC} (hF : ∀ ds n Q, F ds n Q → ds.length = 1 → rd_windows F_check_ground F_words_of { nx := fun _ m => Q (.val .non) m, rt := Q } (startE 0 ds) n) (hk : κ.K = K) : FnOk P w K mg base CX0 (1 + 1) T.a_windows T.d_windows ["ground"] (spD κ 1 F) := by
  subst hk
  refine fn_dl T.f_windows sc_windows (fun cdv A outer s H E hr => ?_) hF
  exact (ds_cons (d1_expr (DX.de (dx_call c_check_ground hr (da_cons (v 0) da_nil)))) (ds_one (d1_retO (DX.do (dx_call c_words_of hr (da_cons (e_row hG T.F_Ground (v 0)) (da_cons (e_span hG T.F_Ground (v 0)) da_nil)))))))
theorem cal_windows {k : Nat} {F : FC} (T : Top K mg) (h : FnOk P w K mg base CX0 k T.a_windows T.d_windows ["ground"] (spD κ 1 F)) : Cal κ P w K mg base "windows" k 1 F [] := ⟨_, _, _, [], [], h, T.m_windows, T.f_windows.kp, b_windows T, .nil, fun _ _ => .nil⟩
theorem ok_own_windows (T : Top K mg) {F_check_ground : FC} {F_own_list : FC} (c_check_ground : Cal κ P w K mg base "check_ground" 1 1 F_check_ground []) (c_own_list : Cal κ P w K mg base "own_list" 3 1 F_own_list []) {F : FC} (hF : ∀ ds n Q, F ds n Q → ds.length = 1 → rd_own_windows F_check_ground F_own_list { nx := fun _ m => Q (.val .non) m, rt := Q } (startE 0 ds) n) (hk : κ.K = K) : FnOk P w K mg base CX0 (3 + 1) T.a_own_windows T.d_own_windows ["ground"] (spD κ 1 F) := by
  subst hk
  refine fn_dl T.f_own_windows sc_own_windows (fun cdv A outer s H E hr => ?_) hF
  exact (ds_cons (d1_expr (DX.de (dx_call c_check_ground hr (da_cons (v 0) da_nil)))) (ds_one (d1_retO (DX.do (dx_call c_own_list hr (da_cons (v 0) da_nil))))))
theorem cal_own_windows {k : Nat} {F : FC} (T : Top K mg) (h : FnOk P w K mg base CX0 k T.a_own_windows T.d_own_windows ["ground"] (spD κ 1 F)) : Cal κ P w K mg base "own_windows" k 1 F [] := ⟨_, _, _, [], [], h, T.m_own_windows, T.f_own_windows.kp, b_own_windows T, .nil, fun _ _ => .nil⟩
theorem ok_is_own (T : Top K mg) {F_check_ground : FC} {F_check_window : FC} {F_repeats : FC} (c_check_ground : Cal κ P w K mg base "check_ground" 1 1 F_check_ground []) (c_check_window : Cal κ P w K mg base "check_window" 3 2 F_check_window []) (c_repeats : Cal κ P w K mg base "repeats" 2 2 F_repeats []) {cv : CV} (hG : HasGnd κ T.C_Ground cv) {F : FC} (hF : ∀ ds n Q, F ds n Q → ds.length = 2 → rd_is_own F_check_ground F_check_window F_repeats { nx := fun _ m => Q (.val .non) m, rt := Q } (startE 0 ds) n) (hk : κ.K = K) : FnOk P w K mg base CX0 (3 + 1) T.a_is_own T.d_is_own ["ground", "window"] (spD κ 2 F) := by
  subst hk
  refine fn_dl T.f_is_own sc_is_own (fun cdv A outer s H E hr => ?_) hF
  exact (ds_cons (d1_expr (DX.de (dx_call c_check_ground hr (da_cons (v 0) da_nil)))) (ds_cons (d1_expr (DX.de (dx_call c_check_window hr (da_cons (v 0) (da_cons (v 1) da_nil))))) (ds_one (d1_ret (de_not (DX.de (dx_call c_repeats hr (da_cons (v 1) (da_cons (e_least hG T.F_Ground (v 0)) da_nil)))))))))
theorem cal_is_own {k : Nat} {F : FC} (T : Top K mg) (h : FnOk P w K mg base CX0 k T.a_is_own T.d_is_own ["ground", "window"] (spD κ 2 F)) : Cal κ P w K mg base "is_own" k 2 F [] := ⟨_, _, _, [], [], h, T.m_is_own, T.f_is_own.kp, b_is_own T, .nil, fun _ _ => .nil⟩
theorem ok_count_own (T : Top K mg) {F_many_words : FC} {F_primitives : FC} (c_many_words : Cal κ P w K mg base "many_words" 1 2 F_many_words []) (c_primitives : Cal κ P w K mg base "primitives" 2 2 F_primitives []) {cv : CV} (hG : HasGnd κ T.C_Ground cv) {F : FC} (hF : ∀ ds n Q, F ds n Q → ds.length = 1 → rd_count_own F_many_words F_primitives { nx := fun _ m => Q (.val .non) m, rt := Q } (startE 2 ds) n) (hk : κ.K = K) : FnOk P w K mg base CX0 (2 + 1) T.a_count_own T.d_count_own ["ground"] (spD κ 1 F) := by
  subst hk
  refine fn_dl T.f_count_own sc_count_own (fun cdv A outer s H E hr => ?_) hF
  exact (ds_cons (S_asg 1 sc_count_own.nd (e_len T.g_len (e_row hG T.F_Ground (v 0)))) (ds_one (d1_ret (e_sub (DX.de (dx_call c_many_words hr (da_cons (v 1) (da_cons (e_span hG T.F_Ground (v 0)) da_nil)))) (e_sum T.g_sum (DO.fr (o_comp [("period", 2)] sc_count_own.nd (i_r2 T.g_range de_int (e_least hG T.F_Ground (v 0))) (fun _ _ _ _ _ => (G_n 2 sc_count_own.nd)) (fun _ _ _ _ _ => dts_nil) (fun _ _ _ _ _ => (DX.de (dx_call c_primitives hr (da_cons (v 1) (da_cons (v 2) da_nil))))))))))))
theorem cal_count_own {k : Nat} {F : FC} (T : Top K mg) (h : FnOk P w K mg base CX0 k T.a_count_own T.d_count_own ["ground"] (spD κ 1 F)) : Cal κ P w K mg base "count_own" k 1 F [] := ⟨_, _, _, [], [], h, T.m_count_own, T.f_count_own.kp, b_count_own T, .nil, fun _ _ => .nil⟩
theorem ok_many_own (T : Top K mg) {F_check_ground : FC} {F_count_own : FC} (c_check_ground : Cal κ P w K mg base "check_ground" 1 1 F_check_ground []) (c_count_own : Cal κ P w K mg base "count_own" 3 1 F_count_own []) {F : FC} (hF : ∀ ds n Q, F ds n Q → ds.length = 1 → rd_many_own F_check_ground F_count_own { nx := fun _ m => Q (.val .non) m, rt := Q } (startE 0 ds) n) (hk : κ.K = K) : FnOk P w K mg base CX0 (3 + 1) T.a_many_own T.d_many_own ["ground"] (spD κ 1 F) := by
  subst hk
  refine fn_dl T.f_many_own sc_many_own (fun cdv A outer s H E hr => ?_) hF
  exact (ds_cons (d1_expr (DX.de (dx_call c_check_ground hr (da_cons (v 0) da_nil)))) (ds_one (d1_ret (DX.de (dx_call c_count_own hr (da_cons (v 0) da_nil))))))
theorem cal_many_own {k : Nat} {F : FC} (T : Top K mg) (h : FnOk P w K mg base CX0 k T.a_many_own T.d_many_own ["ground"] (spD κ 1 F)) : Cal κ P w K mg base "many_own" k 1 F [] := ⟨_, _, _, [], [], h, T.m_many_own, T.f_many_own.kp, b_many_own T, .nil, fun _ _ => .nil⟩
theorem ok_near_ones (T : Top K mg) {F_check_ground : FC} {F_check_window : FC} {F_is_near : FC} {F_own_list : FC} (c_check_ground : Cal κ P w K mg base "check_ground" 1 1 F_check_ground []) (c_check_window : Cal κ P w K mg base "check_window" 3 2 F_check_window []) (c_is_near : Cal κ P w K mg base "is_near" 2 3 F_is_near []) (c_own_list : Cal κ P w K mg base "own_list" 3 1 F_own_list []) {cv : CV} (hG : HasGnd κ T.C_Ground cv) {F : FC} (hF : ∀ ds n Q, F ds n Q → ds.length = 2 → rd_near_ones F_check_ground F_check_window F_is_near F_own_list { nx := fun _ m => Q (.val .non) m, rt := Q } (startE 1 ds) n) (hk : κ.K = K) : FnOk P w K mg base CX0 (3 + 1) T.a_near_ones T.d_near_ones ["ground", "window"] (spD κ 2 F) := by
  subst hk
  refine fn_dl T.f_near_ones sc_near_ones (fun cdv A outer s H E hr => ?_) hF
  exact (ds_cons (d1_expr (DX.de (dx_call c_check_ground hr (da_cons (v 0) da_nil)))) (ds_cons (d1_expr (DX.de (dx_call c_check_window hr (da_cons (v 0) (da_cons (v 1) da_nil))))) (ds_one (d1_retO (o_comp [("late", 2)] sc_near_ones.nd (i_seq (DX.de (dx_call c_own_list hr (da_cons (v 0) da_nil)))) (fun _ _ _ _ _ => (G_n 2 sc_near_ones.nd)) (fun _ _ _ _ _ => (dts_one (dt_tru (DX.de (dx_call c_is_near hr (da_cons (v 1) (da_cons (v 2) (da_cons (e_least hG T.F_Ground (v 0)) da_nil)))))))) (fun _ _ _ _ _ => (v 2)))))))
theorem cal_near_ones {k : Nat} {F : FC} (T : Top K mg) (h : FnOk P w K mg base CX0 k T.a_near_ones T.d_near_ones ["ground", "window"] (spD κ 2 F)) : Cal κ P w K mg base "near_ones" k 2 F [] := ⟨_, _, _, [], [], h, T.m_near_ones, T.f_near_ones.kp, b_near_ones T, .nil, fun _ _ => .nil⟩
theorem ok_next_ones (T : Top K mg) {F_check_ground : FC} {F_check_window : FC} (c_check_ground : Cal κ P w K mg base "check_ground" 1 1 F_check_ground []) (c_check_window : Cal κ P w K mg base "check_window" 3 2 F_check_window []) {cv : CV} (hG : HasGnd κ T.C_Ground cv) {F : FC} (hF : ∀ ds n Q, F ds n Q → ds.length = 2 → rd_next_ones F_check_ground F_check_window { nx := fun _ m => Q (.val .non) m, rt := Q } (startE 1 ds) n) (hk : κ.K = K) : FnOk P w K mg base CX0 (3 + 1) T.a_next_ones T.d_next_ones ["ground", "window"] (spD κ 2 F) := by
  subst hk
  refine fn_dl T.f_next_ones sc_next_ones (fun cdv A outer s H E hr => ?_) hF
  exact (ds_cons (d1_expr (DX.de (dx_call c_check_ground hr (da_cons (v 0) da_nil)))) (ds_cons (d1_expr (DX.de (dx_call c_check_window hr (da_cons (v 0) (da_cons (v 1) da_nil))))) (ds_one (d1_retO (o_comp [("sign", 2)] sc_next_ones.nd (i_seq (e_row hG T.F_Ground (v 0))) (fun _ _ _ _ _ => (G_n 2 sc_next_ones.nd)) (fun _ _ _ _ _ => dts_nil) (fun _ _ _ _ _ => (e_add (e_sl (v 1) (dp_some de_int) dp_none) (v 2))))))))
theorem cal_next_ones {k : Nat} {F : FC} (T : Top K mg) (h : FnOk P w K mg base CX0 k T.a_next_ones T.d_next_ones ["ground", "window"] (spD κ 2 F)) : Cal κ P w K mg base "next_ones" k 2 F [] := ⟨_, _, _, [], [], h, T.m_next_ones, T.f_next_ones.kp, b_next_ones T, .nil, fun _ _ => .nil⟩
theorem ok__law_dice (T : Top K mg) {F : FC} (hF : ∀ ds n Q, F ds n Q → ds.length = 2 → rd__law_dice { nx := fun _ m => Q (.val .non) m, rt := Q } (startE 1 ds) n) (hk : κ.K = K) : FnOk P w K mg base CX0 (0 + 1) T.a__law_dice T.d__law_dice ["script", "at"] (spD κ 2 F) := by
  subst hk
  refine fn_dl T.f__law_dice sc__law_dice (fun cdv A outer s H E hr => ?_) hF
  exact (ds_cons (S_asg 2 sc__law_dice.nd (e_sum T.g_sum (e_sl (v 0) (dp_some (v 1)) (dp_some (e_add (v 1) de_int))))) (ds_one (d1_retO (do_lst (da_cons (e_mod (e_int T.g_int (e_max T.g_max (da_cons (e_sub (v 2) (e_pow de_int de_int)) (da_cons de_int da_nil)))) (e_pow (e_pow de_int de_int) de_int)) (da_cons (e_mod (e_int T.g_int (v 2)) de_int) (da_cons de_int (da_cons (v 1) da_nil))))))))
theorem cal__law_dice {k : Nat} {F : FC} (T : Top K mg) (h : FnOk P w K mg base CX0 k T.a__law_dice T.d__law_dice ["script", "at"] (spD κ 2 F)) : Cal κ P w K mg base "_law_dice" k 2 F [] := ⟨_, _, _, [], [], h, T.m__law_dice, T.f__law_dice.kp, b__law_dice T, .nil, fun _ _ => .nil⟩
theorem ok__law_mixed (T : Top K mg) {F : FC} (hF : ∀ ds n Q, F ds n Q → ds.length = 3 → rd__law_mixed { nx := fun _ m => Q (.val .non) m, rt := Q } (startE 1 ds) n) (hk : κ.K = K) : FnOk P w K mg base CX0 (0 + 1) T.a__law_mixed T.d__law_mixed ["seed", "spin", "at"] (spD κ 3 F) := by
  subst hk
  refine fn_dl T.f__law_mixed sc__law_mixed (fun cdv A outer s H E hr => ?_) hF
  exact (ds_cons (S_asg 3 sc__law_mixed.nd (e_add (e_mul (v 0) de_int) (e_mul (e_mul de_int (v 1)) (v 1)))) (ds_cons (S_asg 3 sc__law_mixed.nd (e_mod (e_int T.g_int (e_add (e_add (v 3) (e_mul de_int (v 2))) (v 1))) de_int)) (ds_cons (S_asg 3 sc__law_mixed.nd (e_mod (e_int T.g_int (e_add (e_mul (v 3) (v 3)) de_int)) de_int)) (ds_one (d1_ret (e_mod (e_int T.g_int (e_mul (v 3) de_int)) de_int))))))
theorem cal__law_mixed {k : Nat} {F : FC} (T : Top K mg) (h : FnOk P w K mg base CX0 k T.a__law_mixed T.d__law_mixed ["seed", "spin", "at"] (spD κ 3 F)) : Cal κ P w K mg base "_law_mixed" k 3 F [] := ⟨_, _, _, [], [], h, T.m__law_mixed, T.f__law_mixed.kp, b__law_mixed T, .nil, fun _ _ => .nil⟩
theorem ok__law_draw (T : Top K mg) {F__law_mixed : FC} (c__law_mixed : Cal κ P w K mg base "_law_mixed" 1 3 F__law_mixed []) (hK : HasDice κ) {F : FC} (hF : ∀ ds n Q, F ds n Q → ds.length = 2 → rd__law_draw F__law_mixed { nx := fun _ m => Q (.val .non) m, rt := Q } (startE 3 ds) n) (hk : κ.K = K) : FnOk P w K mg base CX0 (1 + 1) T.a__law_draw T.d__law_draw ["dice", "many"] (spD κ 2 F) := by
  subst hk
  refine fn_dl T.f__law_draw sc__law_draw (fun cdv A outer s H E hr => ?_) hF
  exact (ds_cons (d1_if (t_gt (e_ixB 0 0 hK ⟨_, _, rfl⟩) de_int) (ds_cons (S_asg 4 sc__law_draw.nd (e_mod (e_int T.g_int (e_ixB 0 0 hK ⟨_, _, rfl⟩)) (v 1))) (ds_cons (S_setB 0 0 hK (e_div (e_ixB 0 0 hK ⟨_, _, rfl⟩) (v 1)) ⟨_, _, rfl⟩) (ds_one (d1_ret (v 4))))) ds_nil) (ds_cons (S_asg 2 sc__law_draw.nd de_int) (ds_cons (S_for (i_r1 T.g_range (e_add de_int (e_div (de_bits (v 1)) de_int))) (N_n 3 sc__law_draw.nd) (ds_cons (S_setB 0 2 hK (e_add (e_ixB 0 2 hK ⟨_, _, rfl⟩) de_int) ⟨_, _, rfl⟩) (ds_one (S_asg 2 sc__law_draw.nd (e_add (e_mul (v 2) de_int) (DX.de (dx_call c__law_mixed hr (da_cons (e_ixB 0 1 hK ⟨_, _, rfl⟩) (da_cons (e_ixB 0 2 hK ⟨_, _, rfl⟩) (da_cons (e_ixB 0 3 hK ⟨_, _, rfl⟩) da_nil)))))))))) (ds_one (d1_ret (e_mod (e_int T.g_int (v 2)) (v 1)))))))
theorem cal__law_draw {k : Nat} {F : FC} (T : Top K mg) (h : FnOk P w K mg base CX0 k T.a__law_draw T.d__law_draw ["dice", "many"] (spD κ 2 F)) : Cal κ P w K mg base "_law_draw" k 2 F [] := ⟨_, _, _, [], [], h, T.m__law_draw, T.f__law_draw.kp, b__law_draw T, .nil, fun _ _ => .nil⟩
theorem ok__law_one_of (T : Top K mg) {F__law_draw : FC} (c__law_draw : Cal κ P w K mg base "_law_draw" 2 2 F__law_draw []) {F : FC} (hF : ∀ ds n Q, F ds n Q → ds.length = 2 → rd__law_one_of F__law_draw { nx := fun _ m => Q (.val .non) m, rt := Q } (startE 0 ds) n) (hk : κ.K = K) : FnOk P w K mg base CX0 (2 + 1) T.a__law_one_of T.d__law_one_of ["dice", "some"] (spD κ 2 F) := by
  subst hk
  refine fn_dl T.f__law_one_of sc__law_one_of (fun cdv A outer s H E hr => ?_) hF
  exact (ds_one (d1_ret (e_ix hr (v 1) (DX.de (dx_call c__law_draw hr (da_cons (v 0) (da_cons (e_len T.g_len (v 1)) da_nil)))))))
theorem cal__law_one_of {k : Nat} {F : FC} (T : Top K mg) (h : FnOk P w K mg base CX0 k T.a__law_one_of T.d__law_one_of ["dice", "some"] (spD κ 2 F)) : Cal κ P w K mg base "_law_one_of" k 2 F [] := ⟨_, _, _, [], [], h, T.m__law_one_of, T.f__law_one_of.kp, b__law_one_of T, .nil, fun _ _ => .nil⟩
theorem ok__law_exact (T : Top K mg) {lv : Nat} (hlv : 0 ≤ lv) {F__law_exact : FC} (c__law_exact : Cal κ P w K mg base "_law_exact" lv 2 F__law_exact []) {F : FC} (hF : ∀ ds n Q, F ds n Q → ds.length = 2 → rd__law_exact F__law_exact { nx := fun _ m => Q (.val .non) m, rt := Q } (startE 4 ds) n) (hk : κ.K = K) : FnOk P w K mg base CX0 (lv + 1) T.a__law_exact T.d__law_exact ["mine", "theirs"] (spD κ 2 F) := by
  subst hk
  refine fn_dl T.f__law_exact sc__law_exact (fun cdv A outer s H E hr => ?_) hF
  exact (ds_cons (d1_if (dt_val (e_isiT T.g_isinstance (v 0) (ty_cons .list T.g_list (ty_cons .tuple T.g_tuple dtys_nil)))) (ds_cons (S_asg 2 sc__law_exact.nd (de_and (e_eq hr (e_isi .list T.g_isinstance T.g_list (v 1)) (e_isi .list T.g_isinstance T.g_list (v 0))) (de_one (e_eq hr (e_isi .tuple T.g_isinstance T.g_tuple (v 1)) (e_isi .tuple T.g_isinstance T.g_tuple (v 0)))))) (ds_one (d1_ret (de_and (v 2) (de_and (e_eq hr (e_len T.g_len (v 0)) (e_len T.g_len (v 1))) (de_one (e_all T.g_all (DO.fr (o_comp [("a", 3), ("b", 4)] sc__law_exact.nd (i_zip T.g_zip (v 0) (v 1)) (fun _ _ _ _ _ => (G_t (dgs_cons (G_n 3 sc__law_exact.nd) (dgs_cons (G_n 4 sc__law_exact.nd) dgs_nil)))) (fun _ _ _ _ _ => dts_nil) (fun _ _ _ _ _ => (DX.de (dx_call c__law_exact hr (da_cons (v 3) (da_cons (v 4) da_nil)))))))))))))) ds_nil) (ds_cons (d1_if (dt_val (e_isi .dict T.g_isinstance T.g_dict (v 0))) (ds_cons (S_asg 2 sc__law_exact.nd (de_and (e_isi .dict T.g_isinstance T.g_dict (v 1)) (de_one (DX.de (dx_call c__law_exact hr (da_cons (DO.fr (o_list T.g_list (v 0))) (da_cons (DO.fr (o_list T.g_list (v 1))) da_nil))))))) (ds_one (d1_ret (de_and (v 2) (de_one (e_all T.g_all (DO.fr (o_comp [("key", 5)] sc__law_exact.nd (i_name 0) (fun _ _ _ _ _ => (G_n 5 sc__law_exact.nd)) (fun _ _ _ _ _ => dts_nil) (fun _ _ _ _ _ => (DX.de (dx_call c__law_exact hr (da_cons (e_ix hr (v 0) (v 5)) (da_cons (e_ix hr (v 1) (v 5)) da_nil))))))))))))) ds_nil) (ds_cons (d1_if (DW.dt (dw_or (dt_val (e_isiT T.g_isinstance (v 1) (ty_cons .list T.g_list (ty_cons .tuple T.g_tuple (ty_cons .dict T.g_dict dtys_nil))))) (dw_or1 (t_ne hr (e_isN (v 0) de_non) (e_isN (v 1) de_non))))) (ds_one (d1_ret de_bl)) ds_nil) (ds_cons (S_asg 2 sc__law_exact.nd (de_and (e_eq hr (e_isi .int T.g_isinstance T.g_int (v 0)) (e_isi .int T.g_isinstance T.g_int (v 1))) (de_one (e_eq hr (e_isi .str T.g_isinstance T.g_str (v 0)) (e_isi .str T.g_isinstance T.g_str (v 1)))))) (ds_one (d1_ret (de_and (v 2) (de_and (e_eq hr (e_isi .bool T.g_isinstance T.g_bool (v 0)) (e_isi .bool T.g_isinstance T.g_bool (v 1))) (de_one (e_eq hr (v 0) (v 1)))))))))))
theorem cal__law_exact {k : Nat} {F : FC} (T : Top K mg) (h : FnOk P w K mg base CX0 k T.a__law_exact T.d__law_exact ["mine", "theirs"] (spD κ 2 F)) : Cal κ P w K mg base "_law_exact" k 2 F [] := ⟨_, _, _, [], [], h, T.m__law_exact, T.f__law_exact.kp, b__law_exact T, .nil, fun _ _ => .nil⟩
theorem ok__law_dices (T : Top K mg) {F__law_dice : FC} (c__law_dice : Cal κ P w K mg base "_law_dice" 1 2 F__law_dice []) {F : FC} (hF : ∀ ds n Q, F ds n Q → ds.length = 2 → rd__law_dices F__law_dice { nx := fun _ m => Q (.val .non) m, rt := Q } (startE 1 ds) n) (hk : κ.K = K) : FnOk P w K mg base CX0 (1 + 1) T.a__law_dices T.d__law_dices ["script", "few"] (spD κ 2 F) := by
  subst hk
  refine fn_dl T.f__law_dices sc__law_dices (fun cdv A outer s H E hr => ?_) hF
  exact (ds_one (d1_retO (o_comp [("at", 2)] sc__law_dices.nd (i_r1 T.g_range (e_max T.g_max (da_cons de_int (da_cons (e_min T.g_min (da_cons (v 1) (da_cons (e_len T.g_len (v 0)) da_nil))) da_nil)))) (fun _ _ _ _ _ => (G_n 2 sc__law_dices.nd)) (fun _ _ _ _ _ => dts_nil) (fun _ _ _ _ _ => (DX.de (dx_call c__law_dice hr (da_cons (v 0) (da_cons (v 2) da_nil))))))))
theorem cal__law_dices {k : Nat} {F : FC} (T : Top K mg) (h : FnOk P w K mg base CX0 k T.a__law_dices T.d__law_dices ["script", "few"] (spD κ 2 F)) : Cal κ P w K mg base "_law_dices" k 2 F [] := ⟨_, _, _, [], [], h, T.m__law_dices, T.f__law_dices.kp, b__law_dices T, .nil, fun _ _ => .nil⟩
theorem ok__law_letters (T : Top K mg) {F__law_draw : FC} (c__law_draw : Cal κ P w K mg base "_law_draw" 2 2 F__law_draw []) {F : FC} (hF : ∀ ds n Q, F ds n Q → ds.length = 2 → rd__law_letters F__law_draw { nx := fun _ m => Q (.val .non) m, rt := Q } (startE 4 ds) n) (hk : κ.K = K) : FnOk P w K mg base CX0 (2 + 1) T.a__law_letters T.d__law_letters ["dice", "many"] (spD κ 2 F) := by
  subst hk
  refine fn_dl T.f__law_letters sc__law_letters (fun cdv A outer s H E hr => ?_) hF
  exact (ds_cons (S_asgO 2 sc__law_letters.nd (do_lst da_nil)) (ds_cons (S_for (i_r1 T.g_range (v 1)) (N_n 3 sc__law_letters.nd) (ds_cons (S_asg 4 sc__law_letters.nd (e_ix hr (c_str [97, 98, 99, 100, 101, 102, 103, 104, 105, 106, 107, 108, 109, 110, 111, 112, 113, 114, 115, 116, 117, 118, 119, 120, 121, 122]) (DX.de (dx_call c__law_draw hr (da_cons (v 0) (da_cons de_int da_nil)))))) (ds_one (S_appV 2 (de_if (t_notIn hr (v 4) (v 2)) (v 4) (e_ix hr (DO.fr (o_comp [("sign", 5)] sc__law_letters.nd (i_seq (DO.fr (o_list T.g_list (c_str [97, 98, 99, 100, 101, 102, 103, 104, 105, 106, 107, 108, 109, 110, 111, 112, 113, 114, 115, 116, 117, 118, 119, 120, 121, 122])))) (fun _ _ _ _ _ => (G_n 5 sc__law_letters.nd)) (fun _ _ _ _ _ => (dts_one (t_notIn hr (v 5) (v 2)))) (fun _ _ _ _ _ => (v 5)))) de_int)))))) (ds_one (d1_retV (de_join (c_str []) (DO.fr (o_sorted T.g_sorted (v 2))))))))
theorem cal__law_letters {k : Nat} {F : FC} (T : Top K mg) (h : FnOk P w K mg base CX0 k T.a__law_letters T.d__law_letters ["dice", "many"] (spD κ 2 F)) : Cal κ P w K mg base "_law_letters" k 2 F [] := ⟨_, _, _, [], [], h, T.m__law_letters, T.f__law_letters.kp, b__law_letters T, .nil, fun _ _ => .nil⟩
theorem ok__law_ground (T : Top K mg) {F__law_draw : FC} {F__law_letters : FC} {F__law_one_of : FC} (c__law_draw : Cal κ P w K mg base "_law_draw" 2 2 F__law_draw []) (c__law_letters : Cal κ P w K mg base "_law_letters" 3 2 F__law_letters []) (c__law_one_of : Cal κ P w K mg base "_law_one_of" 3 2 F__law_one_of []) {F : FC} (hF : ∀ ds n Q, F ds n Q → ds.length = 2 → rd__law_ground F__law_draw F__law_letters F__law_one_of { nx := fun _ m => Q (.val .non) m, rt := Q } (startE 5 ds) n) (hk : κ.K = K) : FnOk P w K mg base CX0 (3 + 1) T.a__law_ground T.d__law_ground ["dice", "most"] (spD κ 2 F) := by
  subst hk
  refine fn_dl T.f__law_ground sc__law_ground (fun cdv A outer s H E hr => ?_) hF
  exact (ds_cons (S_asg 2 sc__law_ground.nd (DO.fr (do_lst (da_cons (de_tup (da_cons de_int (da_cons de_int da_nil))) (da_cons (de_tup (da_cons de_int (da_cons de_int da_nil))) (da_cons (de_tup (da_cons de_int (da_cons de_int da_nil))) (da_cons (de_tup (da_cons de_int (da_cons de_int da_nil))) (da_cons (de_tup (da_cons de_int (da_cons de_int da_nil))) (da_cons (de_tup (da_cons de_int (da_cons de_int da_nil))) (da_cons (de_tup (da_cons de_int (da_cons de_int da_nil))) da_nil)))))))))) (ds_cons (S_asg 3 sc__law_ground.nd (DO.fr (do_lst (da_cons de_int (da_cons de_int (da_cons de_int (da_cons de_int (da_cons de_int (da_cons de_int (da_cons de_int da_nil)))))))))) (ds_cons (d1_unp (DX.de (dx_call c__law_one_of hr (da_cons (v 0) (da_cons (DO.fr (o_comp [("at", 6)] sc__law_ground.nd (i_r1 T.g_range de_int) (fun _ _ _ _ _ => (G_n 6 sc__law_ground.nd)) (fun _ _ _ _ _ => (dts_one (t_le (e_ix hr (v 3) (v 6)) (v 1)))) (fun _ _ _ _ _ => (e_ix hr (v 2) (v 6))))) da_nil)))) (N_t (sds_cons (N_n 4 sc__law_ground.nd) (sds_cons (N_n 5 sc__law_ground.nd) sds_nil)))) (ds_one (d1_ret (de_tup (da_cons (de_if (t_eq hr (DX.de (dx_call c__law_draw hr (da_cons (v 0) (da_cons de_int da_nil)))) de_int) (DX.de (dx_call c__law_letters hr (da_cons (v 0) (da_cons (v 4) da_nil)))) (e_sl (c_str [97, 98, 99, 100, 101, 102, 103, 104]) dp_none (dp_some (v 4)))) (da_cons (v 5) da_nil))))))))
theorem cal__law_ground {k : Nat} {F : FC} (T : Top K mg) (h : FnOk P w K mg base CX0 k T.a__law_ground T.d__law_ground ["dice", "most"] (spD κ 2 F)) : Cal κ P w K mg base "_law_ground" k 2 F [] := ⟨_, _, _, [], [], h, T.m__law_ground, T.f__law_ground.kp, b__law_ground T, .nil, fun _ _ => .nil⟩
theorem ok__law_repeats (T : Top K mg) {F : FC} (hF : ∀ ds n Q, F ds n Q → ds.length = 2 → rd__law_repeats { nx := fun _ m => Q (.val .non) m, rt := Q } (startE 1 ds) n) (hk : κ.K = K) : FnOk P w K mg base CX0 (0 + 1) T.a__law_repeats T.d__law_repeats ["word", "gap"] (spD κ 2 F) := by
  subst hk
  refine fn_dl T.f__law_repeats sc__law_repeats (fun cdv A outer s H E hr => ?_) hF
  exact (ds_one (d1_ret (e_any T.g_any (DO.fr (o_comp [("period", 2)] sc__law_repeats.nd (i_r2 T.g_range de_int (e_min T.g_min (da_cons (v 1) (da_cons (e_len T.g_len (v 0)) da_nil)))) (fun _ _ _ _ _ => (G_n 2 sc__law_repeats.nd)) (fun _ _ _ _ _ => dts_nil) (fun _ _ _ _ _ => (e_eq hr (e_sl (v 0) (dp_some (v 2)) dp_none) (e_sl (v 0) dp_none (dp_some (e_sub (e_len T.g_len (v 0)) (v 2)))))))))))
theorem cal__law_repeats {k : Nat} {F : FC} (T : Top K mg) (h : FnOk P w K mg base CX0 k T.a__law_repeats T.d__law_repeats ["word", "gap"] (spD κ 2 F)) : Cal κ P w K mg base "_law_repeats" k 2 F [] := ⟨_, _, _, [], [], h, T.m__law_repeats, T.f__law_repeats.kp, b__law_repeats T, .nil, fun _ _ => .nil⟩
theorem ok__law_words_of (T : Top K mg) {F : FC} (hF : ∀ ds n Q, F ds n Q → ds.length = 2 → rd__law_words_of { nx := fun _ m => Q (.val .non) m, rt := Q } (startE 5 ds) n) (hk : κ.K = K) : FnOk P w K mg base CX0 (0 + 1) T.a__law_words_of T.d__law_words_of ["signs", "size"] (spD κ 2 F) := by
  subst hk
  refine fn_dl T.f__law_words_of sc__law_words_of (fun cdv A outer s H E hr => ?_) hF
  exact (ds_cons (S_asg 2 sc__law_words_of.nd (DO.fr (do_lst (da_cons (c_str []) da_nil)))) (ds_cons (S_for (i_r1 T.g_range (v 1)) (N_n 3 sc__law_words_of.nd) (ds_cons (S_asg 4 sc__law_words_of.nd (DO.fr (do_lst da_nil))) (ds_cons (S_for (i_name 2) (N_n 5 sc__law_words_of.nd) (ds_one (S_asg 4 sc__law_words_of.nd (e_add (v 4) (DO.fr (o_comp [("sign", 6)] sc__law_words_of.nd (i_seq (DO.fr (o_list T.g_list (v 0)))) (fun _ _ _ _ _ => (G_n 6 sc__law_words_of.nd)) (fun _ _ _ _ _ => dts_nil) (fun _ _ _ _ _ => (e_add (v 5) (v 6))))))))) (ds_one (S_asg 2 sc__law_words_of.nd (v 4)))))) (ds_one (d1_ret (v 2)))))
theorem cal__law_words_of {k : Nat} {F : FC} (T : Top K mg) (h : FnOk P w K mg base CX0 k T.a__law_words_of T.d__law_words_of ["signs", "size"] (spD κ 2 F)) : Cal κ P w K mg base "_law_words_of" k 2 F [] := ⟨_, _, _, [], [], h, T.m__law_words_of, T.f__law_words_of.kp, b__law_words_of T, .nil, fun _ _ => .nil⟩
theorem ok__law_own (T : Top K mg) {F__law_repeats : FC} {F__law_words_of : FC} (c__law_repeats : Cal κ P w K mg base "_law_repeats" 1 2 F__law_repeats []) (c__law_words_of : Cal κ P w K mg base "_law_words_of" 1 2 F__law_words_of []) {F : FC} (hF : ∀ ds n Q, F ds n Q → ds.length = 1 → rd__law_own F__law_repeats F__law_words_of { nx := fun _ m => Q (.val .non) m, rt := Q } (startE 1 ds) n) (hk : κ.K = K) : FnOk P w K mg base CX0 (1 + 1) T.a__law_own T.d__law_own ["ground"] (spD κ 1 F) := by
  subst hk
  refine fn_dl T.f__law_own sc__law_own (fun cdv A outer s H E hr => ?_) hF
  exact (ds_one (d1_retO (o_comp [("word", 1)] sc__law_own.nd (i_seq (DX.de (dx_call c__law_words_of hr (da_cons (e_ix hr (v 0) de_int) (da_cons (e_sub (e_mul de_int (e_ix hr (v 0) de_int)) de_int) da_nil))))) (fun _ _ _ _ _ => (G_n 1 sc__law_own.nd)) (fun _ _ _ _ _ => (dts_one (dt_not (dt_tru (DX.de (dx_call c__law_repeats hr (da_cons (v 1) (da_cons (e_ix hr (v 0) de_int) da_nil)))))))) (fun _ _ _ _ _ => (v 1)))))
theorem cal__law_own {k : Nat} {F : FC} (T : Top K mg) (h : FnOk P w K mg base CX0 k T.a__law_own T.d__law_own ["ground"] (spD κ 1 F)) : Cal κ P w K mg base "_law_own" k 1 F [] := ⟨_, _, _, [], [], h, T.m__law_own, T.f__law_own.kp, b__law_own T, .nil, fun _ _ => .nil⟩
theorem ok__law_behind_at (T : Top K mg) {F : FC} (hF : ∀ ds n Q, F ds n Q → ds.length = 3 → rd__law_behind_at { nx := fun _ m => Q (.val .non) m, rt := Q } (startE 1 ds) n) (hk : κ.K = K) : FnOk P w K mg base CX0 (0 + 1) T.a__law_behind_at T.d__law_behind_at ["one", "other", "gap"] (spD κ 3 F) := by
  subst hk
  refine fn_dl T.f__law_behind_at sc__law_behind_at (fun cdv A outer s H E hr => ?_) hF
  exact (ds_one (d1_retO (o_comp [("space", 3)] sc__law_behind_at.nd (i_r2 T.g_range de_int (v 2)) (fun _ _ _ _ _ => (G_n 3 sc__law_behind_at.nd)) (fun _ _ _ _ _ => (dts_one (t_eq hr (e_sl (v 0) (dp_some (v 3)) dp_none) (e_sl (v 1) dp_none (dp_some (e_sub (e_len T.g_len (v 0)) (v 3))))))) (fun _ _ _ _ _ => (v 3)))))
theorem cal__law_behind_at {k : Nat} {F : FC} (T : Top K mg) (h : FnOk P w K mg base CX0 k T.a__law_behind_at T.d__law_behind_at ["one", "other", "gap"] (spD κ 3 F)) : Cal κ P w K mg base "_law_behind_at" k 3 F [] := ⟨_, _, _, [], [], h, T.m__law_behind_at, T.f__law_behind_at.kp, b__law_behind_at T, .nil, fun _ _ => .nil⟩
theorem ok__law_near (T : Top K mg) {F__law_behind_at : FC} (c__law_behind_at : Cal κ P w K mg base "_law_behind_at" 1 3 F__law_behind_at []) {F : FC} (hF : ∀ ds n Q, F ds n Q → ds.length = 3 → rd__law_near F__law_behind_at { nx := fun _ m => Q (.val .non) m, rt := Q } (startE 0 ds) n) (hk : κ.K = K) : FnOk P w K mg base CX0 (1 + 1) T.a__law_near T.d__law_near ["one", "other", "gap"] (spD κ 3 F) := by
  subst hk
  refine fn_dl T.f__law_near sc__law_near (fun cdv A outer s H E hr => ?_) hF
  exact (ds_one (d1_ret (de_or (e_ne hr (DX.de (dx_call c__law_behind_at hr (da_cons (v 0) (da_cons (v 1) (da_cons (v 2) da_nil))))) (DO.fr (do_lst da_nil))) (de_one (e_ne hr (DX.de (dx_call c__law_behind_at hr (da_cons (v 1) (da_cons (v 0) (da_cons (v 2) da_nil))))) (DO.fr (do_lst da_nil)))))))
theorem cal__law_near {k : Nat} {F : FC} (T : Top K mg) (h : FnOk P w K mg base CX0 k T.a__law_near T.d__law_near ["one", "other", "gap"] (spD κ 3 F)) : Cal κ P w K mg base "_law_near" k 3 F [] := ⟨_, _, _, [], [], h, T.m__law_near, T.f__law_near.kp, b__law_near T, .nil, fun _ _ => .nil⟩
theorem b_init (T : Top K mg) : Binds K T.d_init ["self", "signs", "gap"] [] := T.f_init.binds fun _ _ _ _ _ _ us hl => match us, hl with | [_, _, _], _ => rfl
theorem ok_init (T : Top K mg) {F_is_count : FC} {F_is_rising : FC} {F_is_text : FC} (c_is_count_1 : Cal κ P w K mg base "is_count" 2 2 F_is_count [.non]) (c_is_rising : Cal κ P w K mg base "is_rising" 1 1 F_is_rising []) (c_is_text : Cal κ P w K mg base "is_text" 1 1 F_is_text []) {cv : CV} (hG : HasGnd κ T.C_Ground cv) (f1 : ∀ s g, OkG s g → ∀ n, rd_init1 F_is_count F_is_rising F_is_text [none, some (.str s), some (.int (g : Nat))] n fun b m => b = false ∧ m = n) (f2 : ∀ s g, OkG s g → ∀ n, rd_init2 F_is_count F_is_rising F_is_text [none, some (.str s), some (.int (g : Nat))] n fun b m => b = false ∧ m = n) (hk : κ.K = K) : FnOk P w K mg base CX0 3 T.a_init T.d_init ["self", "signs", "gap"] (spInitG κ T.C_Ground) := by
  subst hk
  refine T.f_init.ok sc_init (fun vs H Q E h => by obtain ⟨_, _, _, _, _, _, _, rfl, _⟩ := h; rfl) (fun cdv A outer s H vs Q E hr h => ?_)
  obtain ⟨t, p, q⟩ := init_ps (X := (cxOf CX0 P w κ.K mg base ["self", "signs", "gap"] "Ground.__init__" (defScope s_init) T.a_init cdv A outer s H E).nox) T.F_Ground rfl (DW.dt (dw_or (dt_not (dt_tru (DX.de (dx_call c_is_text hr (da_cons (v 1) da_nil))))) (dw_or (t_lt (e_len T.g_len (v 1)) de_int) (dw_or1 (dt_not (dt_tru (DX.de (dx_call c_is_rising hr (da_cons (v 1) da_nil))))))))) (DW.dt (dw_or (dt_not (dt_tru (DX.de (dx_call c_is_count_1 hr (da_cons (v 2) da_nil))))) (dw_or1 (t_lt (v 2) de_int)))) rfl (.inl rfl) (.inl rfl) (.inl rfl) f1 f2
  exact ⟨t, p, q vs H Q E h⟩
theorem ok__law_made (T : Top K mg) {cv : CV} (hG : HasGnd κ T.C_Ground cv) (hI : FnOk P w K mg base CX0 3 T.a_init T.d_init ["self", "signs", "gap"] (spInitG κ T.C_Ground)) {F : FC} (hF : ∀ ds n Q, F ds n Q → ds.length = 1 → rd__law_made { nx := fun _ m => Q (.val .non) m, rt := Q } (startE 0 ds) n) (hk : κ.K = K) : FnOk P w K mg base CX0 (4 + 1) T.a__law_made T.d__law_made ["ground"] (spD κ 1 F) := by
  subst hk
  refine fn_dl T.f__law_made sc__law_made (fun cdv A outer s H E hr => ?_) hF
  exact (ds_one (d1_ret (e_mkG hG T.mk_Ground hI (b_init T) T.m_Ground hr (da_cons (e_ix hr (v 0) de_int) (da_cons (e_ix hr (v 0) de_int) da_nil)))))
theorem cal__law_made {k : Nat} {F : FC} (T : Top K mg) (h : FnOk P w K mg base CX0 k T.a__law_made T.d__law_made ["ground"] (spD κ 1 F)) : Cal κ P w K mg base "_law_made" k 1 F [] := ⟨_, _, _, [], [], h, T.m__law_made, T.f__law_made.kp, b__law_made T, .nil, fun _ _ => .nil⟩
theorem ok__law_power (T : Top K mg) {F : FC} (hF : ∀ ds n Q, F ds n Q → ds.length = 2 → rd__law_power { nx := fun _ m => Q (.val .non) m, rt := Q } (startE 2 ds) n) (hk : κ.K = K) : FnOk P w K mg base CX0 (0 + 1) T.a__law_power T.d__law_power ["base", "many"] (spD κ 2 F) := by
  subst hk
  refine fn_dl T.f__law_power sc__law_power (fun cdv A outer s H E hr => ?_) hF
  exact (ds_cons (S_asg 2 sc__law_power.nd de_int) (ds_cons (S_for (i_r1 T.g_range (v 1)) (N_n 3 sc__law_power.nd) (ds_one (S_asg 2 sc__law_power.nd (e_mul (v 2) (v 0))))) (ds_one (d1_ret (v 2)))))
theorem cal__law_power {k : Nat} {F : FC} (T : Top K mg) (h : FnOk P w K mg base CX0 k T.a__law_power T.d__law_power ["base", "many"] (spD κ 2 F)) : Cal κ P w K mg base "_law_power" k 2 F [] := ⟨_, _, _, [], [], h, T.m__law_power, T.f__law_power.kp, b__law_power T, .nil, fun _ _ => .nil⟩
theorem ok__law_great_ground (T : Top K mg) {F__law_draw : FC} {F__law_letters : FC} (c__law_draw : Cal κ P w K mg base "_law_draw" 2 2 F__law_draw []) (c__law_letters : Cal κ P w K mg base "_law_letters" 3 2 F__law_letters []) {F : FC} (hF : ∀ ds n Q, F ds n Q → ds.length = 2 → rd__law_great_ground F__law_draw F__law_letters { nx := fun _ m => Q (.val .non) m, rt := Q } (startE 0 ds) n) (hk : κ.K = K) : FnOk P w K mg base CX0 (3 + 1) T.a__law_great_ground T.d__law_great_ground ["dice", "most"] (spD κ 2 F) := by
  subst hk
  refine fn_dl T.f__law_great_ground sc__law_great_ground (fun cdv A outer s H E hr => ?_) hF
  exact (ds_one (d1_ret (de_tup (da_cons (DX.de (dx_call c__law_letters hr (da_cons (v 0) (da_cons (e_add de_int (DX.de (dx_call c__law_draw hr (da_cons (v 0) (da_cons de_int da_nil))))) da_nil)))) (da_cons (e_add de_int (DX.de (dx_call c__law_draw hr (da_cons (v 0) (da_cons (e_sub (v 1) de_int) da_nil))))) da_nil)))))
theorem cal__law_great_ground {k : Nat} {F : FC} (T : Top K mg) (h : FnOk P w K mg base CX0 k T.a__law_great_ground T.d__law_great_ground ["dice", "most"] (spD κ 2 F)) : Cal κ P w K mg base "_law_great_ground" k 2 F [] := ⟨_, _, _, [], [], h, T.m__law_great_ground, T.f__law_great_ground.kp, b__law_great_ground T, .nil, fun _ _ => .nil⟩
theorem ok__law_great_window (T : Top K mg) {F__law_draw : FC} {F__law_one_of : FC} (c__law_draw : Cal κ P w K mg base "_law_draw" 2 2 F__law_draw []) (c__law_one_of : Cal κ P w K mg base "_law_one_of" 3 2 F__law_one_of []) {F : FC} (hF : ∀ ds n Q, F ds n Q → ds.length = 2 → rd__law_great_window F__law_draw F__law_one_of { nx := fun _ m => Q (.val .non) m, rt := Q } (startE 6 ds) n) (hk : κ.K = K) : FnOk P w K mg base CX0 (3 + 1) T.a__law_great_window T.d__law_great_window ["dice", "ground"] (spD κ 2 F) := by
  subst hk
  refine fn_dl T.f__law_great_window sc__law_great_window (fun cdv A outer s H E hr => ?_) hF
  exact (ds_cons (S_tup (dxs_cons (dx_v (e_sub (e_mul de_int (e_ix hr (v 1) de_int)) de_int)) (dxs_cons (dx_v (DO.fr (o_list T.g_list (e_ix hr (v 1) de_int)))) dxs_nil)) (X_n 2 sc__law_great_window.nd (X_n 3 sc__law_great_window.nd names_nil))) (ds_cons (S_asg 4 sc__law_great_window.nd (de_join (c_str []) (DO.fr (o_comp [("spin", 7)] sc__law_great_window.nd (i_r1 T.g_range (e_add de_int (DX.de (dx_call c__law_draw hr (da_cons (v 0) (da_cons (e_add (e_ix hr (v 1) de_int) de_int) da_nil)))))) (fun _ _ _ _ _ => (G_n 7 sc__law_great_window.nd)) (fun _ _ _ _ _ => dts_nil) (fun _ _ _ _ _ => (DX.de (dx_call c__law_one_of hr (da_cons (v 0) (da_cons (v 3) da_nil))))))))) (ds_cons (S_par 5 6 sc__law_great_window.nd (dxs_cons (dx_v (e_sl (e_mul (v 4) (v 2)) dp_none (dp_some (v 2)))) (dxs_cons (dx_v (DX.de (dx_call c__law_draw hr (da_cons (v 0) (da_cons (v 2) da_nil))))) dxs_nil))) (ds_one (d1_ret (de_if (t_eq hr (DX.de (dx_call c__law_draw hr (da_cons (v 0) (da_cons de_int da_nil)))) de_int) (v 5) (e_add (e_add (e_sl (v 5) dp_none (dp_some (v 6))) (DX.de (dx_call c__law_one_of hr (da_cons (v 0) (da_cons (v 3) da_nil))))) (e_sl (v 5) (dp_some (e_add (v 6) de_int)) dp_none))))))))
theorem cal__law_great_window {k : Nat} {F : FC} (T : Top K mg) (h : FnOk P w K mg base CX0 k T.a__law_great_window T.d__law_great_window ["dice", "ground"] (spD κ 2 F)) : Cal κ P w K mg base "_law_great_window" k 2 F [] := ⟨_, _, _, [], [], h, T.m__law_great_window, T.f__law_great_window.kp, b__law_great_window T, .nil, fun _ _ => .nil⟩
theorem ok__law_many_ground (T : Top K mg) {F__law_draw : FC} {F__law_letters : FC} (c__law_draw : Cal κ P w K mg base "_law_draw" 2 2 F__law_draw []) (c__law_letters : Cal κ P w K mg base "_law_letters" 3 2 F__law_letters []) {F : FC} (hF : ∀ ds n Q, F ds n Q → ds.length = 1 → rd__law_many_ground F__law_draw F__law_letters { nx := fun _ m => Q (.val .non) m, rt := Q } (startE 0 ds) n) (hk : κ.K = K) : FnOk P w K mg base CX0 (3 + 1) T.a__law_many_ground T.d__law_many_ground ["dice"] (spD κ 1 F) := by
  subst hk
  refine fn_dl T.f__law_many_ground sc__law_many_ground (fun cdv A outer s H E hr => ?_) hF
  exact (ds_one (d1_ret (de_if (t_eq hr (DX.de (dx_call c__law_draw hr (da_cons (v 0) (da_cons de_int da_nil)))) de_int) (de_tup (da_cons (DX.de (dx_call c__law_letters hr (da_cons (v 0) (da_cons de_int da_nil)))) (da_cons de_int da_nil))) (de_tup (da_cons (DX.de (dx_call c__law_letters hr (da_cons (v 0) (da_cons de_int da_nil)))) (da_cons de_int da_nil))))))
theorem cal__law_many_ground {k : Nat} {F : FC} (T : Top K mg) (h : FnOk P w K mg base CX0 k T.a__law_many_ground T.d__law_many_ground ["dice"] (spD κ 1 F)) : Cal κ P w K mg base "_law_many_ground" k 1 F [] := ⟨_, _, _, [], [], h, T.m__law_many_ground, T.f__law_many_ground.kp, b__law_many_ground T, .nil, fun _ _ => .nil⟩
theorem ok__law_primitives (T : Top K mg) {F__law_power : FC} (c__law_power : Cal κ P w K mg base "_law_power" 1 2 F__law_power []) {F : FC} (hF : ∀ ds n Q, F ds n Q → ds.length = 2 → rd__law_primitives F__law_power { nx := fun _ m => Q (.val .non) m, rt := Q } (startE 3 ds) n) (hk : κ.K = K) : FnOk P w K mg base CX0 (1 + 1) T.a__law_primitives T.d__law_primitives ["signs", "most"] (spD κ 2 F) := by
  subst hk
  refine fn_dl T.f__law_primitives sc__law_primitives (fun cdv A outer s H E hr => ?_) hF
  exact (ds_cons (S_dct 2 sc__law_primitives.nd) (ds_cons (S_for (i_r2 T.g_range de_int (e_add (v 1) de_int)) (N_n 3 sc__law_primitives.nd) (ds_one (S_setDV 2 hr (e_sub (DX.de (dx_call c__law_power hr (da_cons (v 0) (da_cons (v 3) da_nil)))) (e_sum T.g_sum (DO.fr (o_comp [("late", 4)] sc__law_primitives.nd (i_name 2) (fun _ _ _ _ _ => (G_n 4 sc__law_primitives.nd)) (fun _ _ _ _ _ => (dts_one (t_eq hr (e_mod (e_int T.g_int (v 3)) (v 4)) de_int))) (fun _ _ _ _ _ => (e_ix hr (v 2) (v 4))))))) (v 3)))) (ds_one (d1_retV (e_sum T.g_sum (DO.fr (o_comp [("size", 3)] sc__law_primitives.nd (i_name 2) (fun _ _ _ _ _ => (G_n 3 sc__law_primitives.nd)) (fun _ _ _ _ _ => dts_nil) (fun _ _ _ _ _ => (e_ix hr (v 2) (v 3))))))))))
theorem cal__law_primitives {k : Nat} {F : FC} (T : Top K mg) (h : FnOk P w K mg base CX0 k T.a__law_primitives T.d__law_primitives ["signs", "most"] (spD κ 2 F)) : Cal κ P w K mg base "_law_primitives" k 2 F [] := ⟨_, _, _, [], [], h, T.m__law_primitives, T.f__law_primitives.kp, b__law_primitives T, .nil, fun _ _ => .nil⟩
theorem ok__law_great_right (T : Top K mg) {F__law_draw : FC} {F__law_exact : FC} {F__law_letters : FC} {F__law_made : FC} {F__law_power : FC} {F__law_primitives : FC} {F_many_own : FC} (c__law_draw : Cal κ P w K mg base "_law_draw" 2 2 F__law_draw []) (c__law_exact : Cal κ P w K mg base "_law_exact" 8 2 F__law_exact []) (c__law_letters : Cal κ P w K mg base "_law_letters" 3 2 F__law_letters []) (c__law_made : Cal κ P w K mg base "_law_made" 5 1 F__law_made []) (c__law_power : Cal κ P w K mg base "_law_power" 1 2 F__law_power []) (c__law_primitives : Cal κ P w K mg base "_law_primitives" 2 2 F__law_primitives []) (c_many_own : Cal κ P w K mg base "many_own" 4 1 F_many_own []) {F : FC} (hF : ∀ ds n Q, F ds n Q → ds.length = 1 → rd__law_great_right F__law_draw F__law_exact F__law_letters F__law_made F__law_power F__law_primitives F_many_own { nx := fun _ m => Q (.val .non) m, rt := Q } (startE 4 ds) n) (hk : κ.K = K) : FnOk P w K mg base CX0 (8 + 1) T.a__law_great_right T.d__law_great_right ["dice"] (spD κ 1 F) := by
  subst hk
  refine fn_dl T.f__law_great_right sc__law_great_right (fun cdv A outer s H E hr => ?_) hF
  exact (ds_cons (S_par 1 2 sc__law_great_right.nd (dxs_cons (dx_v (DX.de (dx_call c__law_letters hr (da_cons (v 0) (da_cons (e_add de_int (DX.de (dx_call c__law_draw hr (da_cons (v 0) (da_cons de_int da_nil))))) da_nil))))) (dxs_cons (dx_v (e_add de_int (DX.de (dx_call c__law_draw hr (da_cons (v 0) (da_cons de_int da_nil)))))) dxs_nil))) (ds_cons (S_asg 3 sc__law_great_right.nd (e_len T.g_len (v 1))) (ds_cons (S_asg 4 sc__law_great_right.nd (e_sub (DX.de (dx_call c__law_power hr (da_cons (v 3) (da_cons (e_sub (e_mul de_int (v 2)) de_int) da_nil)))) (DX.de (dx_call c__law_primitives hr (da_cons (v 3) (da_cons (e_sub (v 2) de_int) da_nil)))))) (ds_one (d1_ret (DX.de (dx_call c__law_exact hr (da_cons (DX.de (dx_call c_many_own hr (da_cons (DX.de (dx_call c__law_made hr (da_cons (de_tup (da_cons (v 1) (da_cons (v 2) da_nil))) da_nil))) da_nil))) (da_cons (v 4) da_nil)))))))))
theorem cal__law_great_right {k : Nat} {F : FC} (T : Top K mg) (h : FnOk P w K mg base CX0 k T.a__law_great_right T.d__law_great_right ["dice"] (spD κ 1 F)) : Cal κ P w K mg base "_law_great_right" k 1 F [] := ⟨_, _, _, [], [], h, T.m__law_great_right, T.f__law_great_right.kp, b__law_great_right T, .nil, fun _ _ => .nil⟩
theorem ok__law_ground_right (T : Top K mg) {F__law_exact : FC} {F__law_made : FC} {F__law_near : FC} {F__law_own : FC} {F__law_words_of : FC} {F_is_own : FC} {F_many_own : FC} {F_near_ones : FC} {F_own_windows : FC} {F_windows : FC} (c__law_exact : Cal κ P w K mg base "_law_exact" 8 2 F__law_exact []) (c__law_made : Cal κ P w K mg base "_law_made" 5 1 F__law_made []) (c__law_near : Cal κ P w K mg base "_law_near" 2 3 F__law_near []) (c__law_own : Cal κ P w K mg base "_law_own" 2 1 F__law_own []) (c__law_words_of : Cal κ P w K mg base "_law_words_of" 1 2 F__law_words_of []) (c_is_own : Cal κ P w K mg base "is_own" 4 2 F_is_own []) (c_many_own : Cal κ P w K mg base "many_own" 4 1 F_many_own []) (c_near_ones : Cal κ P w K mg base "near_ones" 4 2 F_near_ones []) (c_own_windows : Cal κ P w K mg base "own_windows" 4 1 F_own_windows []) (c_windows : Cal κ P w K mg base "windows" 2 1 F_windows []) {F : FC} (hF : ∀ ds n Q, F ds n Q → ds.length = 1 → rd__law_ground_right F__law_exact F__law_made F__law_near F__law_own F__law_words_of F_is_own F_many_own F_near_ones F_own_windows F_windows { nx := fun _ m => Q (.val .non) m, rt := Q } (startE 8 ds) n) (hk : κ.K = K) : FnOk P w K mg base CX0 (8 + 1) T.a__law_ground_right T.d__law_ground_right ["ground"] (spD κ 1 F) := by
  subst hk
  refine fn_dl T.f__law_ground_right sc__law_ground_right (fun cdv A outer s H E hr => ?_) hF
  exact (ds_cons (S_tup (dxs_cons (dx_v (DX.de (dx_call c__law_made hr (da_cons (v 0) da_nil)))) (dxs_cons (dx_v (DX.de (dx_call c__law_words_of hr (da_cons (e_ix hr (v 0) de_int) (da_cons (e_sub (e_mul de_int (e_ix hr (v 0) de_int)) de_int) da_nil))))) dxs_nil)) (X_n 1 sc__law_ground_right.nd (X_n 2 sc__law_ground_right.nd names_nil))) (ds_cons (S_asg 3 sc__law_ground_right.nd (DX.de (dx_call c__law_own hr (da_cons (v 0) da_nil)))) (ds_cons (d1_if (dt_not (dt_tru (DX.de (dx_call c__law_exact hr (da_cons (DO.fr (do_lst (da_cons (DX.de (dx_call c_own_windows hr (da_cons (DX.de (dx_call c__law_made hr (da_cons (v 0) da_nil))) da_nil))) (da_cons (DX.de (dx_call c_many_own hr (da_cons (DX.de (dx_call c__law_made hr (da_cons (v 0) da_nil))) da_nil))) (da_cons (DX.de (dx_call c_is_own hr (da_cons (DX.de (dx_call c__law_made hr (da_cons (v 0) da_nil))) (da_cons (e_ix hr (v 3) (de_neg de_int)) da_nil)))) da_nil))))) (da_cons (DO.fr (do_lst (da_cons (v 3) (da_cons (e_len T.g_len (v 3)) (da_cons de_bl da_nil))))) da_nil)))))) (ds_one (d1_ret de_bl)) ds_nil) (ds_cons (S_for (i_r1 T.g_range de_int) (N_n 4 sc__law_ground_right.nd) (ds_cons (S_par 6 7 sc__law_ground_right.nd (dxs_cons (dx_o (DX.do (dx_call c_windows hr (da_cons (v 1) da_nil)))) (dxs_cons (dx_o (DX.do (dx_call c_own_windows hr (da_cons (v 1) da_nil)))) dxs_nil))) (ds_cons (d1_if (dt_not (dt_tru (DX.de (dx_call c__law_exact hr (da_cons (DO.fr (do_lst (da_cons (v 6) (da_cons (v 7) (da_cons (DX.de (dx_call c_many_own hr (da_cons (v 1) da_nil))) da_nil))))) (da_cons (DO.fr (do_lst (da_cons (v 2) (da_cons (v 3) (da_cons (e_len T.g_len (v 3)) da_nil))))) da_nil)))))) (ds_one (d1_ret de_bl)) ds_nil) (ds_cons (S_app 6 (c_str [109, 111, 114, 101])) (ds_one (S_app 7 (c_str [109, 111, 114, 101]))))))) (ds_cons (S_for (i_seq (e_add (e_sl (v 2) dp_none (dp_some de_int)) (e_sl (v 2) (dp_some (de_neg de_int)) dp_none))) (N_n 5 sc__law_ground_right.nd) (ds_one (d1_if (dt_not (dt_tru (DX.de (dx_call c__law_exact hr (da_cons (DX.de (dx_call c_is_own hr (da_cons (v 1) (da_cons (v 5) da_nil)))) (da_cons (e_in hr (v 5) (v 3)) da_nil)))))) (ds_one (d1_ret de_bl)) ds_nil))) (ds_cons (S_par 6 7 sc__law_ground_right.nd (dxs_cons (dx_o (DX.do (dx_call c_windows hr (da_cons (v 1) da_nil)))) (dxs_cons (dx_o (DX.do (dx_call c_own_windows hr (da_cons (v 1) da_nil)))) dxs_nil))) (ds_cons (S_asg 8 sc__law_ground_right.nd (DX.de (dx_call c_near_ones hr (da_cons (v 1) (da_cons (e_ix hr (v 2) (de_neg de_int)) da_nil))))) (ds_cons (d1_if (dt_not (dt_tru (DX.de (dx_call c__law_exact hr (da_cons (DO.fr (do_lst (da_cons (v 6) (da_cons (v 7) (da_cons (v 8) da_nil))))) (da_cons (DO.fr (do_lst (da_cons (v 2) (da_cons (v 3) (da_cons (DO.fr (o_comp [("window", 5)] sc__law_ground_right.nd (i_name 3) (fun _ _ _ _ _ => (G_n 5 sc__law_ground_right.nd)) (fun _ _ _ _ _ => (dts_one (dt_tru (DX.de (dx_call c__law_near hr (da_cons (e_ix hr (v 2) (de_neg de_int)) (da_cons (v 5) (da_cons (e_ix hr (v 0) de_int) da_nil)))))))) (fun _ _ _ _ _ => (v 5)))) da_nil))))) da_nil)))))) (ds_one (d1_ret de_bl)) ds_nil) (ds_one (d1_ret (de_not (e_any T.g_any (DO.fr (o_comp [("window", 5)] sc__law_ground_right.nd (i_name 3) (fun _ _ _ _ _ => (G_n 5 sc__law_ground_right.nd)) (fun _ _ _ _ _ => dts_nil) (fun _ _ _ _ _ => (DX.de (dx_call c__law_near hr (da_cons (v 5) (da_cons (v 5) (da_cons (e_ix hr (v 0) de_int) da_nil))))))))))))))))))))
theorem cal__law_ground_right {k : Nat} {F : FC} (T : Top K mg) (h : FnOk P w K mg base CX0 k T.a__law_ground_right T.d__law_ground_right ["ground"] (spD κ 1 F)) : Cal κ P w K mg base "_law_ground_right" k 1 F [] := ⟨_, _, _, [], [], h, T.m__law_ground_right, T.f__law_ground_right.kp, b__law_ground_right T, .nil, fun _ _ => .nil⟩
theorem ok__law_far_right (T : Top K mg) {F__law_exact : FC} {F__law_great_ground : FC} {F__law_great_window : FC} {F__law_made : FC} {F__law_repeats : FC} {F_is_own : FC} {F_next_ones : FC} (c__law_exact : Cal κ P w K mg base "_law_exact" 8 2 F__law_exact []) (c__law_great_ground : Cal κ P w K mg base "_law_great_ground" 4 2 F__law_great_ground []) (c__law_great_window : Cal κ P w K mg base "_law_great_window" 4 2 F__law_great_window []) (c__law_made : Cal κ P w K mg base "_law_made" 5 1 F__law_made []) (c__law_repeats : Cal κ P w K mg base "_law_repeats" 1 2 F__law_repeats []) (c_is_own : Cal κ P w K mg base "is_own" 4 2 F_is_own []) (c_next_ones : Cal κ P w K mg base "next_ones" 4 2 F_next_ones []) {F : FC} (hF : ∀ ds n Q, F ds n Q → ds.length = 1 → rd__law_far_right F__law_exact F__law_great_ground F__law_great_window F__law_made F__law_repeats F_is_own F_next_ones { nx := fun _ m => Q (.val .non) m, rt := Q } (startE 5 ds) n) (hk : κ.K = K) : FnOk P w K mg base CX0 (8 + 1) T.a__law_far_right T.d__law_far_right ["dice"] (spD κ 1 F) := by
  subst hk
  refine fn_dl T.f__law_far_right sc__law_far_right (fun cdv A outer s H E hr => ?_) hF
  exact (ds_cons (S_asg 1 sc__law_far_right.nd (DX.de (dx_call c__law_great_ground hr (da_cons (v 0) (da_cons de_int da_nil))))) (ds_cons (S_asg 2 sc__law_far_right.nd (DX.de (dx_call c__law_made hr (da_cons (v 1) da_nil)))) (ds_cons (S_for (i_r1 T.g_range de_int) (N_n 3 sc__law_far_right.nd) (ds_cons (S_asg 4 sc__law_far_right.nd (DX.de (dx_call c__law_great_window hr (da_cons (v 0) (da_cons (v 1) da_nil))))) (ds_cons (d1_if (dt_not (dt_tru (DX.de (dx_call c__law_exact hr (da_cons (DX.de (dx_call c_is_own hr (da_cons (v 2) (da_cons (v 4) da_nil)))) (da_cons (de_not (DX.de (dx_call c__law_repeats hr (da_cons (v 4) (da_cons (e_ix hr (v 1) de_int) da_nil))))) da_nil)))))) (ds_one (d1_ret de_bl)) ds_nil) (ds_one (d1_if (dt_not (dt_tru (DX.de (dx_call c__law_exact hr (da_cons (DX.de (dx_call c_next_ones hr (da_cons (v 2) (da_cons (v 4) da_nil)))) (da_cons (DO.fr (o_comp [("sign", 5)] sc__law_far_right.nd (i_seq (DO.fr (o_list T.g_list (e_ix hr (v 1) de_int)))) (fun _ _ _ _ _ => (G_n 5 sc__law_far_right.nd)) (fun _ _ _ _ _ => dts_nil) (fun _ _ _ _ _ => (e_add (e_sl (v 4) (dp_some de_int) dp_none) (v 5))))) da_nil)))))) (ds_one (d1_ret de_bl)) ds_nil))))) (ds_one (d1_ret de_bl)))))
theorem cal__law_far_right {k : Nat} {F : FC} (T : Top K mg) (h : FnOk P w K mg base CX0 k T.a__law_far_right T.d__law_far_right ["dice"] (spD κ 1 F)) : Cal κ P w K mg base "_law_far_right" k 1 F [] := ⟨_, _, _, [], [], h, T.m__law_far_right, T.f__law_far_right.kp, b__law_far_right T, .nil, fun _ _ => .nil⟩
theorem ok_law (T : Top K mg) {F__law_dices : FC} {F__law_draw : FC} {F__law_exact : FC} {F__law_far_right : FC} {F__law_great_right : FC} {F__law_great_window : FC} {F__law_ground : FC} {F__law_ground_right : FC} {F__law_letters : FC} {F__law_made : FC} {F__law_many_ground : FC} {F__law_near : FC} {F__law_own : FC} {F_many_own : FC} {F_near_ones : FC} (c__law_dices : Cal κ P w K mg base "_law_dices" 2 2 F__law_dices []) (c__law_draw : Cal κ P w K mg base "_law_draw" 2 2 F__law_draw []) (c__law_exact : Cal κ P w K mg base "_law_exact" 8 2 F__law_exact []) (c__law_far_right : Cal κ P w K mg base "_law_far_right" 9 1 F__law_far_right []) (c__law_great_right : Cal κ P w K mg base "_law_great_right" 9 1 F__law_great_right []) (c__law_great_window : Cal κ P w K mg base "_law_great_window" 4 2 F__law_great_window []) (c__law_ground : Cal κ P w K mg base "_law_ground" 4 2 F__law_ground []) (c__law_ground_right : Cal κ P w K mg base "_law_ground_right" 9 1 F__law_ground_right []) (c__law_letters : Cal κ P w K mg base "_law_letters" 3 2 F__law_letters []) (c__law_made : Cal κ P w K mg base "_law_made" 5 1 F__law_made []) (c__law_many_ground : Cal κ P w K mg base "_law_many_ground" 4 1 F__law_many_ground []) (c__law_near : Cal κ P w K mg base "_law_near" 2 3 F__law_near []) (c__law_own : Cal κ P w K mg base "_law_own" 2 1 F__law_own []) (c_many_own : Cal κ P w K mg base "many_own" 4 1 F_many_own []) (c_near_ones : Cal κ P w K mg base "near_ones" 4 2 F_near_ones []) {F : FC} (hF : ∀ ds n Q, F ds n Q → ds.length = 1 → rd_law F__law_dices F__law_draw F__law_exact F__law_far_right F__law_great_right F__law_great_window F__law_ground F__law_ground_right F__law_letters F__law_made F__law_many_ground F__law_near F__law_own F_many_own F_near_ones { nx := fun _ m => Q (.val .non) m, rt := Q } (startE 5 ds) n) (hk : κ.K = K) : FnOk P w K mg base CX0 (9 + 1) T.a_law T.d_law ["script"] (spD κ 1 F) := by
  subst hk
  refine fn_dl T.f_law sc_law (fun cdv A outer s H E hr => ?_) hF
  exact (ds_cons (S_for (i_seq (DX.de (dx_call c__law_dices hr (da_cons (v 0) (da_cons de_int da_nil))))) (N_n 1 sc_law.nd) (ds_cons (d1_if (DW.dt (dw_and (t_eq hr (DX.de (dx_call c__law_draw hr (da_cons (v 1) (da_cons de_int da_nil)))) de_int) (dw_and1 (dt_not (dt_tru (DX.de (dx_call c__law_ground_right hr (da_cons (DX.de (dx_call c__law_many_ground hr (da_cons (v 1) da_nil))) da_nil)))))))) (ds_one (d1_ret de_bl)) ds_nil) (ds_cons (d1_if (t_eq hr (DX.de (dx_call c__law_draw hr (da_cons (v 1) (da_cons de_int da_nil)))) de_int) (ds_cons (S_asg 3 sc_law.nd (de_tup (da_cons (DX.de (dx_call c__law_letters hr (da_cons (v 1) (da_cons de_int da_nil)))) (da_cons de_int da_nil)))) (ds_cons (S_asg 4 sc_law.nd (DX.de (dx_call c__law_great_window hr (da_cons (v 1) (da_cons (v 3) da_nil))))) (ds_one (d1_if (dt_not (dt_tru (DX.de (dx_call c__law_exact hr (da_cons (DX.de (dx_call c_near_ones hr (da_cons (DX.de (dx_call c__law_made hr (da_cons (v 3) da_nil))) (da_cons (v 4) da_nil)))) (da_cons (DO.fr (o_comp [("late", 5)] sc_law.nd (i_seq (DX.de (dx_call c__law_own hr (da_cons (v 3) da_nil)))) (fun _ _ _ _ _ => (G_n 5 sc_law.nd)) (fun _ _ _ _ _ => (dts_one (dt_tru (DX.de (dx_call c__law_near hr (da_cons (v 4) (da_cons (v 5) (da_cons de_int da_nil)))))))) (fun _ _ _ _ _ => (v 5)))) da_nil)))))) (ds_one (d1_ret de_bl)) ds_nil)))) ds_nil) (ds_one (d1_if (DW.dt (dw_or (dt_not (dt_tru (DX.de (dx_call c__law_ground_right hr (da_cons (DX.de (dx_call c__law_ground hr (da_cons (v 1) (da_cons de_int da_nil)))) da_nil))))) (dw_or (dt_not (dt_tru (DX.de (dx_call c__law_great_right hr (da_cons (v 1) da_nil))))) (dw_or (dt_not (dt_tru (DX.de (dx_call c__law_far_right hr (da_cons (v 1) da_nil))))) (dw_or1 (dt_not (dt_tru (DX.de (dx_call c__law_far_right hr (da_cons (v 1) da_nil)))))))))) (ds_one (d1_ret de_bl)) ds_nil))))) (ds_cons (S_asg 2 sc_law.nd (DO.fr (do_lst (da_cons (DX.de (dx_call c_many_own hr (da_cons (DX.de (dx_call c__law_made hr (da_cons (de_tup (da_cons (c_str [97, 98]) (da_cons de_int da_nil))) da_nil))) da_nil))) (da_cons (DX.de (dx_call c_many_own hr (da_cons (DX.de (dx_call c__law_made hr (da_cons (de_tup (da_cons (c_str [97, 98, 99]) (da_cons de_int da_nil))) da_nil))) da_nil))) (da_cons (DX.de (dx_call c_many_own hr (da_cons (DX.de (dx_call c__law_made hr (da_cons (de_tup (da_cons (c_str [97, 98]) (da_cons de_int da_nil))) da_nil))) da_nil))) (da_cons (DX.de (dx_call c_many_own hr (da_cons (DX.de (dx_call c__law_made hr (da_cons (de_tup (da_cons (c_str [97, 98, 99, 100, 101, 102, 103, 104, 105]) (da_cons de_int da_nil))) da_nil))) da_nil))) da_nil))))))) (ds_one (d1_ret (DX.de (dx_call c__law_exact hr (da_cons (v 2) (da_cons (DO.fr (do_lst (da_cons de_int (da_cons de_int (da_cons de_int (da_cons de_int da_nil)))))) da_nil))))))))
theorem cal_law {k : Nat} {F : FC} (T : Top K mg) (h : FnOk P w K mg base CX0 k T.a_law T.d_law ["script"] (spD κ 1 F)) : Cal κ P w K mg base "law" k 1 F [] := ⟨_, _, _, [], [], h, T.m_law, T.f_law.kp, b_law T, .nil, fun _ _ => .nil⟩
end
/-! ### the facts of the top -/
def top_mk {K : PySem.W.Frag} {h : Heap} {mg : Str → Option Value} (X : K.In h) (G : h.Ns mainGlobals mg)
    {f_is_whole : Addr} {od_is_whole an_is_whole : Option Addr} {sl_is_whole : Array (Option Value)} {oc_is_whole kV_is_whole dc_is_whole pm_is_whole cd_is_whole ct_is_whole : Value}
    (a_is_whole : PySem.W.nsIn K mainGlobals "is_whole" = some (some (.ref f_is_whole))) (l_is_whole : K.lookup f_is_whole = some ⟨oc_is_whole, od_is_whole, .func (PySem.W.fnOf "is_whole" "is_whole" (defArgs s_is_whole) (defBody s_is_whole) (defScope s_is_whole) .none kV_is_whole dc_is_whole pm_is_whole an_is_whole cd_is_whole ct_is_whole), sl_is_whole⟩) (c_is_whole : PySem.W.codeIn K cd_is_whole "is_whole" = true) (k_is_whole : PySem.W.keepIn K (.ref f_is_whole) = true)
    {f_is_count t_is_count : Addr} {od_is_count an_is_count tdd_is_count : Option Addr} {sl_is_count tsl_is_count : Array (Option Value)} {tn_is_count : Nat} {oc_is_count kV_is_count dc_is_count pm_is_count cd_is_count ct_is_count toc_is_count : Value}
    (a_is_count : PySem.W.nsIn K mainGlobals "is_count" = some (some (.ref f_is_count))) (l_is_count : K.lookup f_is_count = some ⟨oc_is_count, od_is_count, .func (PySem.W.fnOf "is_count" "is_count" (defArgs s_is_count) (defBody s_is_count) (defScope s_is_count) (.ref t_is_count) kV_is_count dc_is_count pm_is_count an_is_count cd_is_count ct_is_count), sl_is_count⟩) (c_is_count : PySem.W.codeIn K cd_is_count "is_count" = true) (k_is_count : PySem.W.keepIn K (.ref f_is_count) = true) (t2_is_count : K.lookup t_is_count = some ⟨toc_is_count, tdd_is_count, .seq [Value.none].toArray tn_is_count, tsl_is_count⟩)
    {f_is_text : Addr} {od_is_text an_is_text : Option Addr} {sl_is_text : Array (Option Value)} {oc_is_text kV_is_text dc_is_text pm_is_text cd_is_text ct_is_text : Value}
    (a_is_text : PySem.W.nsIn K mainGlobals "is_text" = some (some (.ref f_is_text))) (l_is_text : K.lookup f_is_text = some ⟨oc_is_text, od_is_text, .func (PySem.W.fnOf "is_text" "is_text" (defArgs s_is_text) (defBody s_is_text) (defScope s_is_text) .none kV_is_text dc_is_text pm_is_text an_is_text cd_is_text ct_is_text), sl_is_text⟩) (c_is_text : PySem.W.codeIn K cd_is_text "is_text" = true) (k_is_text : PySem.W.keepIn K (.ref f_is_text) = true)
    {f_is_rising : Addr} {od_is_rising an_is_rising : Option Addr} {sl_is_rising : Array (Option Value)} {oc_is_rising kV_is_rising dc_is_rising pm_is_rising cd_is_rising ct_is_rising : Value}
    (a_is_rising : PySem.W.nsIn K mainGlobals "is_rising" = some (some (.ref f_is_rising))) (l_is_rising : K.lookup f_is_rising = some ⟨oc_is_rising, od_is_rising, .func (PySem.W.fnOf "is_rising" "is_rising" (defArgs s_is_rising) (defBody s_is_rising) (defScope s_is_rising) .none kV_is_rising dc_is_rising pm_is_rising an_is_rising cd_is_rising ct_is_rising), sl_is_rising⟩) (c_is_rising : PySem.W.codeIn K cd_is_rising "is_rising" = true) (k_is_rising : PySem.W.keepIn K (.ref f_is_rising) = true)
    {f_has : Addr} {od_has an_has : Option Addr} {sl_has : Array (Option Value)} {oc_has kV_has dc_has pm_has cd_has ct_has : Value}
    (a_has : PySem.W.nsIn K mainGlobals "has" = some (some (.ref f_has))) (l_has : K.lookup f_has = some ⟨oc_has, od_has, .func (PySem.W.fnOf "has" "has" (defArgs s_has) (defBody s_has) (defScope s_has) .none kV_has dc_has pm_has an_has cd_has ct_has), sl_has⟩) (c_has : PySem.W.codeIn K cd_has "has" = true) (k_has : PySem.W.keepIn K (.ref f_has) = true)
    {f_repeats : Addr} {od_repeats an_repeats : Option Addr} {sl_repeats : Array (Option Value)} {oc_repeats kV_repeats dc_repeats pm_repeats cd_repeats ct_repeats : Value}
    (a_repeats : PySem.W.nsIn K mainGlobals "repeats" = some (some (.ref f_repeats))) (l_repeats : K.lookup f_repeats = some ⟨oc_repeats, od_repeats, .func (PySem.W.fnOf "repeats" "repeats" (defArgs s_repeats) (defBody s_repeats) (defScope s_repeats) .none kV_repeats dc_repeats pm_repeats an_repeats cd_repeats ct_repeats), sl_repeats⟩) (c_repeats : PySem.W.codeIn K cd_repeats "repeats" = true) (k_repeats : PySem.W.keepIn K (.ref f_repeats) = true)
    {f_many_words : Addr} {od_many_words an_many_words : Option Addr} {sl_many_words : Array (Option Value)} {oc_many_words kV_many_words dc_many_words pm_many_words cd_many_words ct_many_words : Value}
    (a_many_words : PySem.W.nsIn K mainGlobals "many_words" = some (some (.ref f_many_words))) (l_many_words : K.lookup f_many_words = some ⟨oc_many_words, od_many_words, .func (PySem.W.fnOf "many_words" "many_words" (defArgs s_many_words) (defBody s_many_words) (defScope s_many_words) .none kV_many_words dc_many_words pm_many_words an_many_words cd_many_words ct_many_words), sl_many_words⟩) (c_many_words : PySem.W.codeIn K cd_many_words "many_words" = true) (k_many_words : PySem.W.keepIn K (.ref f_many_words) = true)
    {f_primitives : Addr} {od_primitives an_primitives : Option Addr} {sl_primitives : Array (Option Value)} {oc_primitives kV_primitives dc_primitives pm_primitives cd_primitives ct_primitives : Value}
    (a_primitives : PySem.W.nsIn K mainGlobals "primitives" = some (some (.ref f_primitives))) (l_primitives : K.lookup f_primitives = some ⟨oc_primitives, od_primitives, .func (PySem.W.fnOf "primitives" "primitives" (defArgs s_primitives) (defBody s_primitives) (defScope s_primitives) .none kV_primitives dc_primitives pm_primitives an_primitives cd_primitives ct_primitives), sl_primitives⟩) (c_primitives : PySem.W.codeIn K cd_primitives "primitives" = true) (k_primitives : PySem.W.keepIn K (.ref f_primitives) = true)
    {f_check_ground : Addr} {od_check_ground an_check_ground : Option Addr} {sl_check_ground : Array (Option Value)} {oc_check_ground kV_check_ground dc_check_ground pm_check_ground cd_check_ground ct_check_ground : Value}
    (a_check_ground : PySem.W.nsIn K mainGlobals "check_ground" = some (some (.ref f_check_ground))) (l_check_ground : K.lookup f_check_ground = some ⟨oc_check_ground, od_check_ground, .func (PySem.W.fnOf "check_ground" "check_ground" (defArgs s_check_ground) (defBody s_check_ground) (defScope s_check_ground) .none kV_check_ground dc_check_ground pm_check_ground an_check_ground cd_check_ground ct_check_ground), sl_check_ground⟩) (c_check_ground : PySem.W.codeIn K cd_check_ground "check_ground" = true) (k_check_ground : PySem.W.keepIn K (.ref f_check_ground) = true)
    {f_is_text_of : Addr} {od_is_text_of an_is_text_of : Option Addr} {sl_is_text_of : Array (Option Value)} {oc_is_text_of kV_is_text_of dc_is_text_of pm_is_text_of cd_is_text_of ct_is_text_of : Value}
    (a_is_text_of : PySem.W.nsIn K mainGlobals "is_text_of" = some (some (.ref f_is_text_of))) (l_is_text_of : K.lookup f_is_text_of = some ⟨oc_is_text_of, od_is_text_of, .func (PySem.W.fnOf "is_text_of" "is_text_of" (defArgs s_is_text_of) (defBody s_is_text_of) (defScope s_is_text_of) .none kV_is_text_of dc_is_text_of pm_is_text_of an_is_text_of cd_is_text_of ct_is_text_of), sl_is_text_of⟩) (c_is_text_of : PySem.W.codeIn K cd_is_text_of "is_text_of" = true) (k_is_text_of : PySem.W.keepIn K (.ref f_is_text_of) = true)
    {f_is_window_of : Addr} {od_is_window_of an_is_window_of : Option Addr} {sl_is_window_of : Array (Option Value)} {oc_is_window_of kV_is_window_of dc_is_window_of pm_is_window_of cd_is_window_of ct_is_window_of : Value}
    (a_is_window_of : PySem.W.nsIn K mainGlobals "is_window_of" = some (some (.ref f_is_window_of))) (l_is_window_of : K.lookup f_is_window_of = some ⟨oc_is_window_of, od_is_window_of, .func (PySem.W.fnOf "is_window_of" "is_window_of" (defArgs s_is_window_of) (defBody s_is_window_of) (defScope s_is_window_of) .none kV_is_window_of dc_is_window_of pm_is_window_of an_is_window_of cd_is_window_of ct_is_window_of), sl_is_window_of⟩) (c_is_window_of : PySem.W.codeIn K cd_is_window_of "is_window_of" = true) (k_is_window_of : PySem.W.keepIn K (.ref f_is_window_of) = true)
    {f_check_window : Addr} {od_check_window an_check_window : Option Addr} {sl_check_window : Array (Option Value)} {oc_check_window kV_check_window dc_check_window pm_check_window cd_check_window ct_check_window : Value}
    (a_check_window : PySem.W.nsIn K mainGlobals "check_window" = some (some (.ref f_check_window))) (l_check_window : K.lookup f_check_window = some ⟨oc_check_window, od_check_window, .func (PySem.W.fnOf "check_window" "check_window" (defArgs s_check_window) (defBody s_check_window) (defScope s_check_window) .none kV_check_window dc_check_window pm_check_window an_check_window cd_check_window ct_check_window), sl_check_window⟩) (c_check_window : PySem.W.codeIn K cd_check_window "check_window" = true) (k_check_window : PySem.W.keepIn K (.ref f_check_window) = true)
    {f_words_of : Addr} {od_words_of an_words_of : Option Addr} {sl_words_of : Array (Option Value)} {oc_words_of kV_words_of dc_words_of pm_words_of cd_words_of ct_words_of : Value}
    (a_words_of : PySem.W.nsIn K mainGlobals "words_of" = some (some (.ref f_words_of))) (l_words_of : K.lookup f_words_of = some ⟨oc_words_of, od_words_of, .func (PySem.W.fnOf "words_of" "words_of" (defArgs s_words_of) (defBody s_words_of) (defScope s_words_of) .none kV_words_of dc_words_of pm_words_of an_words_of cd_words_of ct_words_of), sl_words_of⟩) (c_words_of : PySem.W.codeIn K cd_words_of "words_of" = true) (k_words_of : PySem.W.keepIn K (.ref f_words_of) = true)
    {f_own_list : Addr} {od_own_list an_own_list : Option Addr} {sl_own_list : Array (Option Value)} {oc_own_list kV_own_list dc_own_list pm_own_list cd_own_list ct_own_list : Value}
    (a_own_list : PySem.W.nsIn K mainGlobals "own_list" = some (some (.ref f_own_list))) (l_own_list : K.lookup f_own_list = some ⟨oc_own_list, od_own_list, .func (PySem.W.fnOf "own_list" "own_list" (defArgs s_own_list) (defBody s_own_list) (defScope s_own_list) .none kV_own_list dc_own_list pm_own_list an_own_list cd_own_list ct_own_list), sl_own_list⟩) (c_own_list : PySem.W.codeIn K cd_own_list "own_list" = true) (k_own_list : PySem.W.keepIn K (.ref f_own_list) = true)
    {f_distances_in : Addr} {od_distances_in an_distances_in : Option Addr} {sl_distances_in : Array (Option Value)} {oc_distances_in kV_distances_in dc_distances_in pm_distances_in cd_distances_in ct_distances_in : Value}
    (a_distances_in : PySem.W.nsIn K mainGlobals "distances_in" = some (some (.ref f_distances_in))) (l_distances_in : K.lookup f_distances_in = some ⟨oc_distances_in, od_distances_in, .func (PySem.W.fnOf "distances_in" "distances_in" (defArgs s_distances_in) (defBody s_distances_in) (defScope s_distances_in) .none kV_distances_in dc_distances_in pm_distances_in an_distances_in cd_distances_in ct_distances_in), sl_distances_in⟩) (c_distances_in : PySem.W.codeIn K cd_distances_in "distances_in" = true) (k_distances_in : PySem.W.keepIn K (.ref f_distances_in) = true)
    {f_is_near : Addr} {od_is_near an_is_near : Option Addr} {sl_is_near : Array (Option Value)} {oc_is_near kV_is_near dc_is_near pm_is_near cd_is_near ct_is_near : Value}
    (a_is_near : PySem.W.nsIn K mainGlobals "is_near" = some (some (.ref f_is_near))) (l_is_near : K.lookup f_is_near = some ⟨oc_is_near, od_is_near, .func (PySem.W.fnOf "is_near" "is_near" (defArgs s_is_near) (defBody s_is_near) (defScope s_is_near) .none kV_is_near dc_is_near pm_is_near an_is_near cd_is_near ct_is_near), sl_is_near⟩) (c_is_near : PySem.W.codeIn K cd_is_near "is_near" = true) (k_is_near : PySem.W.keepIn K (.ref f_is_near) = true)
    {f_windows : Addr} {od_windows an_windows : Option Addr} {sl_windows : Array (Option Value)} {oc_windows kV_windows dc_windows pm_windows cd_windows ct_windows : Value}
    (a_windows : PySem.W.nsIn K mainGlobals "windows" = some (some (.ref f_windows))) (l_windows : K.lookup f_windows = some ⟨oc_windows, od_windows, .func (PySem.W.fnOf "windows" "windows" (defArgs s_windows) (defBody s_windows) (defScope s_windows) .none kV_windows dc_windows pm_windows an_windows cd_windows ct_windows), sl_windows⟩) (c_windows : PySem.W.codeIn K cd_windows "windows" = true) (k_windows : PySem.W.keepIn K (.ref f_windows) = true)
    {f_own_windows : Addr} {od_own_windows an_own_windows : Option Addr} {sl_own_windows : Array (Option Value)} {oc_own_windows kV_own_windows dc_own_windows pm_own_windows cd_own_windows ct_own_windows : Value}
    (a_own_windows : PySem.W.nsIn K mainGlobals "own_windows" = some (some (.ref f_own_windows))) (l_own_windows : K.lookup f_own_windows = some ⟨oc_own_windows, od_own_windows, .func (PySem.W.fnOf "own_windows" "own_windows" (defArgs s_own_windows) (defBody s_own_windows) (defScope s_own_windows) .none kV_own_windows dc_own_windows pm_own_windows an_own_windows cd_own_windows ct_own_windows), sl_own_windows⟩) (c_own_windows : PySem.W.codeIn K cd_own_windows "own_windows" = true) (k_own_windows : PySem.W.keepIn K (.ref f_own_windows) = true)
    {f_is_own : Addr} {od_is_own an_is_own : Option Addr} {sl_is_own : Array (Option Value)} {oc_is_own kV_is_own dc_is_own pm_is_own cd_is_own ct_is_own : Value}
    (a_is_own : PySem.W.nsIn K mainGlobals "is_own" = some (some (.ref f_is_own))) (l_is_own : K.lookup f_is_own = some ⟨oc_is_own, od_is_own, .func (PySem.W.fnOf "is_own" "is_own" (defArgs s_is_own) (defBody s_is_own) (defScope s_is_own) .none kV_is_own dc_is_own pm_is_own an_is_own cd_is_own ct_is_own), sl_is_own⟩) (c_is_own : PySem.W.codeIn K cd_is_own "is_own" = true) (k_is_own : PySem.W.keepIn K (.ref f_is_own) = true)
    {f_count_own : Addr} {od_count_own an_count_own : Option Addr} {sl_count_own : Array (Option Value)} {oc_count_own kV_count_own dc_count_own pm_count_own cd_count_own ct_count_own : Value}
    (a_count_own : PySem.W.nsIn K mainGlobals "count_own" = some (some (.ref f_count_own))) (l_count_own : K.lookup f_count_own = some ⟨oc_count_own, od_count_own, .func (PySem.W.fnOf "count_own" "count_own" (defArgs s_count_own) (defBody s_count_own) (defScope s_count_own) .none kV_count_own dc_count_own pm_count_own an_count_own cd_count_own ct_count_own), sl_count_own⟩) (c_count_own : PySem.W.codeIn K cd_count_own "count_own" = true) (k_count_own : PySem.W.keepIn K (.ref f_count_own) = true)
    {f_many_own : Addr} {od_many_own an_many_own : Option Addr} {sl_many_own : Array (Option Value)} {oc_many_own kV_many_own dc_many_own pm_many_own cd_many_own ct_many_own : Value}
    (a_many_own : PySem.W.nsIn K mainGlobals "many_own" = some (some (.ref f_many_own))) (l_many_own : K.lookup f_many_own = some ⟨oc_many_own, od_many_own, .func (PySem.W.fnOf "many_own" "many_own" (defArgs s_many_own) (defBody s_many_own) (defScope s_many_own) .none kV_many_own dc_many_own pm_many_own an_many_own cd_many_own ct_many_own), sl_many_own⟩) (c_many_own : PySem.W.codeIn K cd_many_own "many_own" = true) (k_many_own : PySem.W.keepIn K (.ref f_many_own) = true)
    {f_near_ones : Addr} {od_near_ones an_near_ones : Option Addr} {sl_near_ones : Array (Option Value)} {oc_near_ones kV_near_ones dc_near_ones pm_near_ones cd_near_ones ct_near_ones : Value}
    (a_near_ones : PySem.W.nsIn K mainGlobals "near_ones" = some (some (.ref f_near_ones))) (l_near_ones : K.lookup f_near_ones = some ⟨oc_near_ones, od_near_ones, .func (PySem.W.fnOf "near_ones" "near_ones" (defArgs s_near_ones) (defBody s_near_ones) (defScope s_near_ones) .none kV_near_ones dc_near_ones pm_near_ones an_near_ones cd_near_ones ct_near_ones), sl_near_ones⟩) (c_near_ones : PySem.W.codeIn K cd_near_ones "near_ones" = true) (k_near_ones : PySem.W.keepIn K (.ref f_near_ones) = true)
    {f_next_ones : Addr} {od_next_ones an_next_ones : Option Addr} {sl_next_ones : Array (Option Value)} {oc_next_ones kV_next_ones dc_next_ones pm_next_ones cd_next_ones ct_next_ones : Value}
    (a_next_ones : PySem.W.nsIn K mainGlobals "next_ones" = some (some (.ref f_next_ones))) (l_next_ones : K.lookup f_next_ones = some ⟨oc_next_ones, od_next_ones, .func (PySem.W.fnOf "next_ones" "next_ones" (defArgs s_next_ones) (defBody s_next_ones) (defScope s_next_ones) .none kV_next_ones dc_next_ones pm_next_ones an_next_ones cd_next_ones ct_next_ones), sl_next_ones⟩) (c_next_ones : PySem.W.codeIn K cd_next_ones "next_ones" = true) (k_next_ones : PySem.W.keepIn K (.ref f_next_ones) = true)
    {f__law_dice : Addr} {od__law_dice an__law_dice : Option Addr} {sl__law_dice : Array (Option Value)} {oc__law_dice kV__law_dice dc__law_dice pm__law_dice cd__law_dice ct__law_dice : Value}
    (a__law_dice : PySem.W.nsIn K mainGlobals "_law_dice" = some (some (.ref f__law_dice))) (l__law_dice : K.lookup f__law_dice = some ⟨oc__law_dice, od__law_dice, .func (PySem.W.fnOf "_law_dice" "_law_dice" (defArgs s__law_dice) (defBody s__law_dice) (defScope s__law_dice) .none kV__law_dice dc__law_dice pm__law_dice an__law_dice cd__law_dice ct__law_dice), sl__law_dice⟩) (c__law_dice : PySem.W.codeIn K cd__law_dice "_law_dice" = true) (k__law_dice : PySem.W.keepIn K (.ref f__law_dice) = true)
    {f__law_mixed : Addr} {od__law_mixed an__law_mixed : Option Addr} {sl__law_mixed : Array (Option Value)} {oc__law_mixed kV__law_mixed dc__law_mixed pm__law_mixed cd__law_mixed ct__law_mixed : Value}
    (a__law_mixed : PySem.W.nsIn K mainGlobals "_law_mixed" = some (some (.ref f__law_mixed))) (l__law_mixed : K.lookup f__law_mixed = some ⟨oc__law_mixed, od__law_mixed, .func (PySem.W.fnOf "_law_mixed" "_law_mixed" (defArgs s__law_mixed) (defBody s__law_mixed) (defScope s__law_mixed) .none kV__law_mixed dc__law_mixed pm__law_mixed an__law_mixed cd__law_mixed ct__law_mixed), sl__law_mixed⟩) (c__law_mixed : PySem.W.codeIn K cd__law_mixed "_law_mixed" = true) (k__law_mixed : PySem.W.keepIn K (.ref f__law_mixed) = true)
    {f__law_draw : Addr} {od__law_draw an__law_draw : Option Addr} {sl__law_draw : Array (Option Value)} {oc__law_draw kV__law_draw dc__law_draw pm__law_draw cd__law_draw ct__law_draw : Value}
    (a__law_draw : PySem.W.nsIn K mainGlobals "_law_draw" = some (some (.ref f__law_draw))) (l__law_draw : K.lookup f__law_draw = some ⟨oc__law_draw, od__law_draw, .func (PySem.W.fnOf "_law_draw" "_law_draw" (defArgs s__law_draw) (defBody s__law_draw) (defScope s__law_draw) .none kV__law_draw dc__law_draw pm__law_draw an__law_draw cd__law_draw ct__law_draw), sl__law_draw⟩) (c__law_draw : PySem.W.codeIn K cd__law_draw "_law_draw" = true) (k__law_draw : PySem.W.keepIn K (.ref f__law_draw) = true)
    {f__law_one_of : Addr} {od__law_one_of an__law_one_of : Option Addr} {sl__law_one_of : Array (Option Value)} {oc__law_one_of kV__law_one_of dc__law_one_of pm__law_one_of cd__law_one_of ct__law_one_of : Value}
    (a__law_one_of : PySem.W.nsIn K mainGlobals "_law_one_of" = some (some (.ref f__law_one_of))) (l__law_one_of : K.lookup f__law_one_of = some ⟨oc__law_one_of, od__law_one_of, .func (PySem.W.fnOf "_law_one_of" "_law_one_of" (defArgs s__law_one_of) (defBody s__law_one_of) (defScope s__law_one_of) .none kV__law_one_of dc__law_one_of pm__law_one_of an__law_one_of cd__law_one_of ct__law_one_of), sl__law_one_of⟩) (c__law_one_of : PySem.W.codeIn K cd__law_one_of "_law_one_of" = true) (k__law_one_of : PySem.W.keepIn K (.ref f__law_one_of) = true)
    {f__law_exact : Addr} {od__law_exact an__law_exact : Option Addr} {sl__law_exact : Array (Option Value)} {oc__law_exact kV__law_exact dc__law_exact pm__law_exact cd__law_exact ct__law_exact : Value}
    (a__law_exact : PySem.W.nsIn K mainGlobals "_law_exact" = some (some (.ref f__law_exact))) (l__law_exact : K.lookup f__law_exact = some ⟨oc__law_exact, od__law_exact, .func (PySem.W.fnOf "_law_exact" "_law_exact" (defArgs s__law_exact) (defBody s__law_exact) (defScope s__law_exact) .none kV__law_exact dc__law_exact pm__law_exact an__law_exact cd__law_exact ct__law_exact), sl__law_exact⟩) (c__law_exact : PySem.W.codeIn K cd__law_exact "_law_exact" = true) (k__law_exact : PySem.W.keepIn K (.ref f__law_exact) = true)
    {f__law_dices : Addr} {od__law_dices an__law_dices : Option Addr} {sl__law_dices : Array (Option Value)} {oc__law_dices kV__law_dices dc__law_dices pm__law_dices cd__law_dices ct__law_dices : Value}
    (a__law_dices : PySem.W.nsIn K mainGlobals "_law_dices" = some (some (.ref f__law_dices))) (l__law_dices : K.lookup f__law_dices = some ⟨oc__law_dices, od__law_dices, .func (PySem.W.fnOf "_law_dices" "_law_dices" (defArgs s__law_dices) (defBody s__law_dices) (defScope s__law_dices) .none kV__law_dices dc__law_dices pm__law_dices an__law_dices cd__law_dices ct__law_dices), sl__law_dices⟩) (c__law_dices : PySem.W.codeIn K cd__law_dices "_law_dices" = true) (k__law_dices : PySem.W.keepIn K (.ref f__law_dices) = true)
    {f__law_letters : Addr} {od__law_letters an__law_letters : Option Addr} {sl__law_letters : Array (Option Value)} {oc__law_letters kV__law_letters dc__law_letters pm__law_letters cd__law_letters ct__law_letters : Value}
    (a__law_letters : PySem.W.nsIn K mainGlobals "_law_letters" = some (some (.ref f__law_letters))) (l__law_letters : K.lookup f__law_letters = some ⟨oc__law_letters, od__law_letters, .func (PySem.W.fnOf "_law_letters" "_law_letters" (defArgs s__law_letters) (defBody s__law_letters) (defScope s__law_letters) .none kV__law_letters dc__law_letters pm__law_letters an__law_letters cd__law_letters ct__law_letters), sl__law_letters⟩) (c__law_letters : PySem.W.codeIn K cd__law_letters "_law_letters" = true) (k__law_letters : PySem.W.keepIn K (.ref f__law_letters) = true)
    {f__law_ground : Addr} {od__law_ground an__law_ground : Option Addr} {sl__law_ground : Array (Option Value)} {oc__law_ground kV__law_ground dc__law_ground pm__law_ground cd__law_ground ct__law_ground : Value}
    (a__law_ground : PySem.W.nsIn K mainGlobals "_law_ground" = some (some (.ref f__law_ground))) (l__law_ground : K.lookup f__law_ground = some ⟨oc__law_ground, od__law_ground, .func (PySem.W.fnOf "_law_ground" "_law_ground" (defArgs s__law_ground) (defBody s__law_ground) (defScope s__law_ground) .none kV__law_ground dc__law_ground pm__law_ground an__law_ground cd__law_ground ct__law_ground), sl__law_ground⟩) (c__law_ground : PySem.W.codeIn K cd__law_ground "_law_ground" = true) (k__law_ground : PySem.W.keepIn K (.ref f__law_ground) = true)
    {f__law_repeats : Addr} {od__law_repeats an__law_repeats : Option Addr} {sl__law_repeats : Array (Option Value)} {oc__law_repeats kV__law_repeats dc__law_repeats pm__law_repeats cd__law_repeats ct__law_repeats : Value}
    (a__law_repeats : PySem.W.nsIn K mainGlobals "_law_repeats" = some (some (.ref f__law_repeats))) (l__law_repeats : K.lookup f__law_repeats = some ⟨oc__law_repeats, od__law_repeats, .func (PySem.W.fnOf "_law_repeats" "_law_repeats" (defArgs s__law_repeats) (defBody s__law_repeats) (defScope s__law_repeats) .none kV__law_repeats dc__law_repeats pm__law_repeats an__law_repeats cd__law_repeats ct__law_repeats), sl__law_repeats⟩) (c__law_repeats : PySem.W.codeIn K cd__law_repeats "_law_repeats" = true) (k__law_repeats : PySem.W.keepIn K (.ref f__law_repeats) = true)
    {f__law_words_of : Addr} {od__law_words_of an__law_words_of : Option Addr} {sl__law_words_of : Array (Option Value)} {oc__law_words_of kV__law_words_of dc__law_words_of pm__law_words_of cd__law_words_of ct__law_words_of : Value}
    (a__law_words_of : PySem.W.nsIn K mainGlobals "_law_words_of" = some (some (.ref f__law_words_of))) (l__law_words_of : K.lookup f__law_words_of = some ⟨oc__law_words_of, od__law_words_of, .func (PySem.W.fnOf "_law_words_of" "_law_words_of" (defArgs s__law_words_of) (defBody s__law_words_of) (defScope s__law_words_of) .none kV__law_words_of dc__law_words_of pm__law_words_of an__law_words_of cd__law_words_of ct__law_words_of), sl__law_words_of⟩) (c__law_words_of : PySem.W.codeIn K cd__law_words_of "_law_words_of" = true) (k__law_words_of : PySem.W.keepIn K (.ref f__law_words_of) = true)
    {f__law_own : Addr} {od__law_own an__law_own : Option Addr} {sl__law_own : Array (Option Value)} {oc__law_own kV__law_own dc__law_own pm__law_own cd__law_own ct__law_own : Value}
    (a__law_own : PySem.W.nsIn K mainGlobals "_law_own" = some (some (.ref f__law_own))) (l__law_own : K.lookup f__law_own = some ⟨oc__law_own, od__law_own, .func (PySem.W.fnOf "_law_own" "_law_own" (defArgs s__law_own) (defBody s__law_own) (defScope s__law_own) .none kV__law_own dc__law_own pm__law_own an__law_own cd__law_own ct__law_own), sl__law_own⟩) (c__law_own : PySem.W.codeIn K cd__law_own "_law_own" = true) (k__law_own : PySem.W.keepIn K (.ref f__law_own) = true)
    {f__law_behind_at : Addr} {od__law_behind_at an__law_behind_at : Option Addr} {sl__law_behind_at : Array (Option Value)} {oc__law_behind_at kV__law_behind_at dc__law_behind_at pm__law_behind_at cd__law_behind_at ct__law_behind_at : Value}
    (a__law_behind_at : PySem.W.nsIn K mainGlobals "_law_behind_at" = some (some (.ref f__law_behind_at))) (l__law_behind_at : K.lookup f__law_behind_at = some ⟨oc__law_behind_at, od__law_behind_at, .func (PySem.W.fnOf "_law_behind_at" "_law_behind_at" (defArgs s__law_behind_at) (defBody s__law_behind_at) (defScope s__law_behind_at) .none kV__law_behind_at dc__law_behind_at pm__law_behind_at an__law_behind_at cd__law_behind_at ct__law_behind_at), sl__law_behind_at⟩) (c__law_behind_at : PySem.W.codeIn K cd__law_behind_at "_law_behind_at" = true) (k__law_behind_at : PySem.W.keepIn K (.ref f__law_behind_at) = true)
    {f__law_near : Addr} {od__law_near an__law_near : Option Addr} {sl__law_near : Array (Option Value)} {oc__law_near kV__law_near dc__law_near pm__law_near cd__law_near ct__law_near : Value}
    (a__law_near : PySem.W.nsIn K mainGlobals "_law_near" = some (some (.ref f__law_near))) (l__law_near : K.lookup f__law_near = some ⟨oc__law_near, od__law_near, .func (PySem.W.fnOf "_law_near" "_law_near" (defArgs s__law_near) (defBody s__law_near) (defScope s__law_near) .none kV__law_near dc__law_near pm__law_near an__law_near cd__law_near ct__law_near), sl__law_near⟩) (c__law_near : PySem.W.codeIn K cd__law_near "_law_near" = true) (k__law_near : PySem.W.keepIn K (.ref f__law_near) = true)
    {f__law_made : Addr} {od__law_made an__law_made : Option Addr} {sl__law_made : Array (Option Value)} {oc__law_made kV__law_made dc__law_made pm__law_made cd__law_made ct__law_made : Value}
    (a__law_made : PySem.W.nsIn K mainGlobals "_law_made" = some (some (.ref f__law_made))) (l__law_made : K.lookup f__law_made = some ⟨oc__law_made, od__law_made, .func (PySem.W.fnOf "_law_made" "_law_made" (defArgs s__law_made) (defBody s__law_made) (defScope s__law_made) .none kV__law_made dc__law_made pm__law_made an__law_made cd__law_made ct__law_made), sl__law_made⟩) (c__law_made : PySem.W.codeIn K cd__law_made "_law_made" = true) (k__law_made : PySem.W.keepIn K (.ref f__law_made) = true)
    {f__law_power : Addr} {od__law_power an__law_power : Option Addr} {sl__law_power : Array (Option Value)} {oc__law_power kV__law_power dc__law_power pm__law_power cd__law_power ct__law_power : Value}
    (a__law_power : PySem.W.nsIn K mainGlobals "_law_power" = some (some (.ref f__law_power))) (l__law_power : K.lookup f__law_power = some ⟨oc__law_power, od__law_power, .func (PySem.W.fnOf "_law_power" "_law_power" (defArgs s__law_power) (defBody s__law_power) (defScope s__law_power) .none kV__law_power dc__law_power pm__law_power an__law_power cd__law_power ct__law_power), sl__law_power⟩) (c__law_power : PySem.W.codeIn K cd__law_power "_law_power" = true) (k__law_power : PySem.W.keepIn K (.ref f__law_power) = true)
    {f__law_great_ground : Addr} {od__law_great_ground an__law_great_ground : Option Addr} {sl__law_great_ground : Array (Option Value)} {oc__law_great_ground kV__law_great_ground dc__law_great_ground pm__law_great_ground cd__law_great_ground ct__law_great_ground : Value}
    (a__law_great_ground : PySem.W.nsIn K mainGlobals "_law_great_ground" = some (some (.ref f__law_great_ground))) (l__law_great_ground : K.lookup f__law_great_ground = some ⟨oc__law_great_ground, od__law_great_ground, .func (PySem.W.fnOf "_law_great_ground" "_law_great_ground" (defArgs s__law_great_ground) (defBody s__law_great_ground) (defScope s__law_great_ground) .none kV__law_great_ground dc__law_great_ground pm__law_great_ground an__law_great_ground cd__law_great_ground ct__law_great_ground), sl__law_great_ground⟩) (c__law_great_ground : PySem.W.codeIn K cd__law_great_ground "_law_great_ground" = true) (k__law_great_ground : PySem.W.keepIn K (.ref f__law_great_ground) = true)
    {f__law_great_window : Addr} {od__law_great_window an__law_great_window : Option Addr} {sl__law_great_window : Array (Option Value)} {oc__law_great_window kV__law_great_window dc__law_great_window pm__law_great_window cd__law_great_window ct__law_great_window : Value}
    (a__law_great_window : PySem.W.nsIn K mainGlobals "_law_great_window" = some (some (.ref f__law_great_window))) (l__law_great_window : K.lookup f__law_great_window = some ⟨oc__law_great_window, od__law_great_window, .func (PySem.W.fnOf "_law_great_window" "_law_great_window" (defArgs s__law_great_window) (defBody s__law_great_window) (defScope s__law_great_window) .none kV__law_great_window dc__law_great_window pm__law_great_window an__law_great_window cd__law_great_window ct__law_great_window), sl__law_great_window⟩) (c__law_great_window : PySem.W.codeIn K cd__law_great_window "_law_great_window" = true) (k__law_great_window : PySem.W.keepIn K (.ref f__law_great_window) = true)
    {f__law_many_ground : Addr} {od__law_many_ground an__law_many_ground : Option Addr} {sl__law_many_ground : Array (Option Value)} {oc__law_many_ground kV__law_many_ground dc__law_many_ground pm__law_many_ground cd__law_many_ground ct__law_many_ground : Value}
    (a__law_many_ground : PySem.W.nsIn K mainGlobals "_law_many_ground" = some (some (.ref f__law_many_ground))) (l__law_many_ground : K.lookup f__law_many_ground = some ⟨oc__law_many_ground, od__law_many_ground, .func (PySem.W.fnOf "_law_many_ground" "_law_many_ground" (defArgs s__law_many_ground) (defBody s__law_many_ground) (defScope s__law_many_ground) .none kV__law_many_ground dc__law_many_ground pm__law_many_ground an__law_many_ground cd__law_many_ground ct__law_many_ground), sl__law_many_ground⟩) (c__law_many_ground : PySem.W.codeIn K cd__law_many_ground "_law_many_ground" = true) (k__law_many_ground : PySem.W.keepIn K (.ref f__law_many_ground) = true)
    {f__law_primitives : Addr} {od__law_primitives an__law_primitives : Option Addr} {sl__law_primitives : Array (Option Value)} {oc__law_primitives kV__law_primitives dc__law_primitives pm__law_primitives cd__law_primitives ct__law_primitives : Value}
    (a__law_primitives : PySem.W.nsIn K mainGlobals "_law_primitives" = some (some (.ref f__law_primitives))) (l__law_primitives : K.lookup f__law_primitives = some ⟨oc__law_primitives, od__law_primitives, .func (PySem.W.fnOf "_law_primitives" "_law_primitives" (defArgs s__law_primitives) (defBody s__law_primitives) (defScope s__law_primitives) .none kV__law_primitives dc__law_primitives pm__law_primitives an__law_primitives cd__law_primitives ct__law_primitives), sl__law_primitives⟩) (c__law_primitives : PySem.W.codeIn K cd__law_primitives "_law_primitives" = true) (k__law_primitives : PySem.W.keepIn K (.ref f__law_primitives) = true)
    {f__law_great_right : Addr} {od__law_great_right an__law_great_right : Option Addr} {sl__law_great_right : Array (Option Value)} {oc__law_great_right kV__law_great_right dc__law_great_right pm__law_great_right cd__law_great_right ct__law_great_right : Value}
    (a__law_great_right : PySem.W.nsIn K mainGlobals "_law_great_right" = some (some (.ref f__law_great_right))) (l__law_great_right : K.lookup f__law_great_right = some ⟨oc__law_great_right, od__law_great_right, .func (PySem.W.fnOf "_law_great_right" "_law_great_right" (defArgs s__law_great_right) (defBody s__law_great_right) (defScope s__law_great_right) .none kV__law_great_right dc__law_great_right pm__law_great_right an__law_great_right cd__law_great_right ct__law_great_right), sl__law_great_right⟩) (c__law_great_right : PySem.W.codeIn K cd__law_great_right "_law_great_right" = true) (k__law_great_right : PySem.W.keepIn K (.ref f__law_great_right) = true)
    {f__law_ground_right : Addr} {od__law_ground_right an__law_ground_right : Option Addr} {sl__law_ground_right : Array (Option Value)} {oc__law_ground_right kV__law_ground_right dc__law_ground_right pm__law_ground_right cd__law_ground_right ct__law_ground_right : Value}
    (a__law_ground_right : PySem.W.nsIn K mainGlobals "_law_ground_right" = some (some (.ref f__law_ground_right))) (l__law_ground_right : K.lookup f__law_ground_right = some ⟨oc__law_ground_right, od__law_ground_right, .func (PySem.W.fnOf "_law_ground_right" "_law_ground_right" (defArgs s__law_ground_right) (defBody s__law_ground_right) (defScope s__law_ground_right) .none kV__law_ground_right dc__law_ground_right pm__law_ground_right an__law_ground_right cd__law_ground_right ct__law_ground_right), sl__law_ground_right⟩) (c__law_ground_right : PySem.W.codeIn K cd__law_ground_right "_law_ground_right" = true) (k__law_ground_right : PySem.W.keepIn K (.ref f__law_ground_right) = true)
    {f__law_far_right : Addr} {od__law_far_right an__law_far_right : Option Addr} {sl__law_far_right : Array (Option Value)} {oc__law_far_right kV__law_far_right dc__law_far_right pm__law_far_right cd__law_far_right ct__law_far_right : Value}
    (a__law_far_right : PySem.W.nsIn K mainGlobals "_law_far_right" = some (some (.ref f__law_far_right))) (l__law_far_right : K.lookup f__law_far_right = some ⟨oc__law_far_right, od__law_far_right, .func (PySem.W.fnOf "_law_far_right" "_law_far_right" (defArgs s__law_far_right) (defBody s__law_far_right) (defScope s__law_far_right) .none kV__law_far_right dc__law_far_right pm__law_far_right an__law_far_right cd__law_far_right ct__law_far_right), sl__law_far_right⟩) (c__law_far_right : PySem.W.codeIn K cd__law_far_right "_law_far_right" = true) (k__law_far_right : PySem.W.keepIn K (.ref f__law_far_right) = true)
    {f_law : Addr} {od_law an_law : Option Addr} {sl_law : Array (Option Value)} {oc_law kV_law dc_law pm_law cd_law ct_law : Value}
    (a_law : PySem.W.nsIn K mainGlobals "law" = some (some (.ref f_law))) (l_law : K.lookup f_law = some ⟨oc_law, od_law, .func (PySem.W.fnOf "law" "law" (defArgs s_law) (defBody s_law) (defScope s_law) .none kV_law dc_law pm_law an_law cd_law ct_law), sl_law⟩) (c_law : PySem.W.codeIn K cd_law "law" = true) (k_law : PySem.W.keepIn K (.ref f_law) = true)
    {C_G f_init : Addr} {od_init an_init : Option Addr} {sl_init : Array (Option Value)} {oc_init kV_init dc_init pm_init cd_init ct_init : Value}
    (x_C : PySem.W.nsIn K mainGlobals "Ground" = some (some (.ref C_G))) (x_pg : PySem.W.plainGet K C_G Str.empty = true) (x_hd : PySem.W.hasDictIn K C_G = true) (x_po : PySem.W.plainOver K C_G = true) (x_sa : PySem.W.findIn K (.ref C_G) "__setattr__" = some (some (.builtin "object.__setattr__")))
    (x_nR : PySem.W.findIn K (.ref C_G) "row" = some none) (x_nL : PySem.W.findIn K (.ref C_G) "least" = some none) (x_nS : PySem.W.findIn K (.ref C_G) "span" = some none) (x_nK : PySem.W.findIn K (.ref C_G) "known" = some none)
    (x_ha : PySem.W.findIn K (.ref C_G) "__class__" = some (some (.builtin "object.__class__"))) (x_hn : PySem.W.specialIn K (.builtin "object.__class__") "__get__" = some (some (.builtin "getset_descriptor.__get__"))) (x_htk : PySem.W.takesIn K (.builtin "object.__class__") = some true) (x_hm : PySem.W.mroIn K C_G (.type "object") = some true) (x_kp : PySem.W.keepIn K (.ref C_G) = true)
    (x_iNoneType : PySem.W.kitOne K (.type "NoneType") (.ref C_G) = some false) (x_ibool : PySem.W.kitOne K (.type "bool") (.ref C_G) = some false) (x_iint : PySem.W.kitOne K (.type "int") (.ref C_G) = some false) (x_istr : PySem.W.kitOne K (.type "str") (.ref C_G) = some false) (x_ilist : PySem.W.kitOne K (.type "list") (.ref C_G) = some false) (x_ituple : PySem.W.kitOne K (.type "tuple") (.ref C_G) = some false) (x_idict : PySem.W.kitOne K (.type "dict") (.ref C_G) = some false)
    (x_mk : PySem.W.makesIn K C_G = true) (x_in : PySem.W.findIn K (.ref C_G) "__init__" = some (some (.ref f_init))) (x_fn : PySem.W.isFn K (.ref f_init) = true)
    (l_init : K.lookup f_init = some ⟨oc_init, od_init, .func (PySem.W.fnOf "__init__" "Ground.__init__" (defArgs s_init) (defBody s_init) (defScope s_init) .none kV_init dc_init pm_init an_init cd_init ct_init), sl_init⟩) (c_init : PySem.W.codeIn K cd_init "Ground.__init__" = true) (k_init : PySem.W.keepIn K (.ref f_init) = true)
    (z_all : PySem.W.nsIn K mainGlobals "all" = some none)
    (z_any : PySem.W.nsIn K mainGlobals "any" = some none)
    (z_bool : PySem.W.nsIn K mainGlobals "bool" = some none)
    (z_dict : PySem.W.nsIn K mainGlobals "dict" = some none)
    (z_int : PySem.W.nsIn K mainGlobals "int" = some none)
    (z_isinstance : PySem.W.nsIn K mainGlobals "isinstance" = some none)
    (z_len : PySem.W.nsIn K mainGlobals "len" = some none)
    (z_list : PySem.W.nsIn K mainGlobals "list" = some none)
    (z_max : PySem.W.nsIn K mainGlobals "max" = some none)
    (z_min : PySem.W.nsIn K mainGlobals "min" = some none)
    (z_range : PySem.W.nsIn K mainGlobals "range" = some none)
    (z_sorted : PySem.W.nsIn K mainGlobals "sorted" = some none)
    (z_str : PySem.W.nsIn K mainGlobals "str" = some none)
    (z_sum : PySem.W.nsIn K mainGlobals "sum" = some none)
    (z_tuple : PySem.W.nsIn K mainGlobals "tuple" = some none)
    (z_zip : PySem.W.nsIn K mainGlobals "zip" = some none)
    : Top K mg := ⟨f_is_whole, _, PySem.W.mg_of X G a_is_whole, fun_mk l_is_whole c_is_whole k_is_whole, f_is_count, PySem.W.fnOf "is_count" "is_count" (defArgs s_is_count) (defBody s_is_count) (defScope s_is_count) (.ref t_is_count) kV_is_count dc_is_count pm_is_count an_is_count cd_is_count ct_is_count, PySem.W.mg_of X G a_is_count, ⟨⟨oc_is_count, od_is_count, .ref t_is_count, kV_is_count, dc_is_count, pm_is_count, an_is_count, cd_is_count, ct_is_count, sl_is_count, rfl, l_is_count, c_is_count, .inr ⟨by simp, t_is_count, _, _, _, rfl, t2_is_count, rfl, .cons rfl (.nil)⟩, .inl rfl⟩, k_is_count⟩, f_is_text, _, PySem.W.mg_of X G a_is_text, fun_mk l_is_text c_is_text k_is_text, f_is_rising, _, PySem.W.mg_of X G a_is_rising, fun_mk l_is_rising c_is_rising k_is_rising, f_has, _, PySem.W.mg_of X G a_has, fun_mk l_has c_has k_has, f_repeats, _, PySem.W.mg_of X G a_repeats, fun_mk l_repeats c_repeats k_repeats, f_many_words, _, PySem.W.mg_of X G a_many_words, fun_mk l_many_words c_many_words k_many_words, f_primitives, _, PySem.W.mg_of X G a_primitives, fun_mk l_primitives c_primitives k_primitives, f_check_ground, _, PySem.W.mg_of X G a_check_ground, fun_mk l_check_ground c_check_ground k_check_ground, f_is_text_of, _, PySem.W.mg_of X G a_is_text_of, fun_mk l_is_text_of c_is_text_of k_is_text_of, f_is_window_of, _, PySem.W.mg_of X G a_is_window_of, fun_mk l_is_window_of c_is_window_of k_is_window_of, f_check_window, _, PySem.W.mg_of X G a_check_window, fun_mk l_check_window c_check_window k_check_window, f_words_of, _, PySem.W.mg_of X G a_words_of, fun_mk l_words_of c_words_of k_words_of, f_own_list, _, PySem.W.mg_of X G a_own_list, fun_mk l_own_list c_own_list k_own_list, f_distances_in, _, PySem.W.mg_of X G a_distances_in, fun_mk l_distances_in c_distances_in k_distances_in, f_is_near, _, PySem.W.mg_of X G a_is_near, fun_mk l_is_near c_is_near k_is_near, f_windows, _, PySem.W.mg_of X G a_windows, fun_mk l_windows c_windows k_windows, f_own_windows, _, PySem.W.mg_of X G a_own_windows, fun_mk l_own_windows c_own_windows k_own_windows, f_is_own, _, PySem.W.mg_of X G a_is_own, fun_mk l_is_own c_is_own k_is_own, f_count_own, _, PySem.W.mg_of X G a_count_own, fun_mk l_count_own c_count_own k_count_own, f_many_own, _, PySem.W.mg_of X G a_many_own, fun_mk l_many_own c_many_own k_many_own, f_near_ones, _, PySem.W.mg_of X G a_near_ones, fun_mk l_near_ones c_near_ones k_near_ones, f_next_ones, _, PySem.W.mg_of X G a_next_ones, fun_mk l_next_ones c_next_ones k_next_ones, f__law_dice, _, PySem.W.mg_of X G a__law_dice, fun_mk l__law_dice c__law_dice k__law_dice, f__law_mixed, _, PySem.W.mg_of X G a__law_mixed, fun_mk l__law_mixed c__law_mixed k__law_mixed, f__law_draw, _, PySem.W.mg_of X G a__law_draw, fun_mk l__law_draw c__law_draw k__law_draw, f__law_one_of, _, PySem.W.mg_of X G a__law_one_of, fun_mk l__law_one_of c__law_one_of k__law_one_of, f__law_exact, _, PySem.W.mg_of X G a__law_exact, fun_mk l__law_exact c__law_exact k__law_exact, f__law_dices, _, PySem.W.mg_of X G a__law_dices, fun_mk l__law_dices c__law_dices k__law_dices, f__law_letters, _, PySem.W.mg_of X G a__law_letters, fun_mk l__law_letters c__law_letters k__law_letters, f__law_ground, _, PySem.W.mg_of X G a__law_ground, fun_mk l__law_ground c__law_ground k__law_ground, f__law_repeats, _, PySem.W.mg_of X G a__law_repeats, fun_mk l__law_repeats c__law_repeats k__law_repeats, f__law_words_of, _, PySem.W.mg_of X G a__law_words_of, fun_mk l__law_words_of c__law_words_of k__law_words_of, f__law_own, _, PySem.W.mg_of X G a__law_own, fun_mk l__law_own c__law_own k__law_own, f__law_behind_at, _, PySem.W.mg_of X G a__law_behind_at, fun_mk l__law_behind_at c__law_behind_at k__law_behind_at, f__law_near, _, PySem.W.mg_of X G a__law_near, fun_mk l__law_near c__law_near k__law_near, f__law_made, _, PySem.W.mg_of X G a__law_made, fun_mk l__law_made c__law_made k__law_made, f__law_power, _, PySem.W.mg_of X G a__law_power, fun_mk l__law_power c__law_power k__law_power, f__law_great_ground, _, PySem.W.mg_of X G a__law_great_ground, fun_mk l__law_great_ground c__law_great_ground k__law_great_ground, f__law_great_window, _, PySem.W.mg_of X G a__law_great_window, fun_mk l__law_great_window c__law_great_window k__law_great_window, f__law_many_ground, _, PySem.W.mg_of X G a__law_many_ground, fun_mk l__law_many_ground c__law_many_ground k__law_many_ground, f__law_primitives, _, PySem.W.mg_of X G a__law_primitives, fun_mk l__law_primitives c__law_primitives k__law_primitives, f__law_great_right, _, PySem.W.mg_of X G a__law_great_right, fun_mk l__law_great_right c__law_great_right k__law_great_right, f__law_ground_right, _, PySem.W.mg_of X G a__law_ground_right, fun_mk l__law_ground_right c__law_ground_right k__law_ground_right, f__law_far_right, _, PySem.W.mg_of X G a__law_far_right, fun_mk l__law_far_right c__law_far_right k__law_far_right, f_law, _, PySem.W.mg_of X G a_law, fun_mk l_law c_law k_law, PySem.W.mg_none_of X G z_all, PySem.W.mg_none_of X G z_any, PySem.W.mg_none_of X G z_bool, PySem.W.mg_none_of X G z_dict, PySem.W.mg_none_of X G z_int, PySem.W.mg_none_of X G z_isinstance, PySem.W.mg_none_of X G z_len, PySem.W.mg_none_of X G z_list, PySem.W.mg_none_of X G z_max, PySem.W.mg_none_of X G z_min, PySem.W.mg_none_of X G z_range, PySem.W.mg_none_of X G z_sorted, PySem.W.mg_none_of X G z_str, PySem.W.mg_none_of X G z_sum, PySem.W.mg_none_of X G z_tuple, PySem.W.mg_none_of X G z_zip, C_G, PySem.W.mg_of X G x_C, ⟨⟨x_pg, x_hd, x_po, x_sa⟩, x_nR, x_nL, x_nS, x_nK, x_ha, x_hn, x_htk, x_hm, x_kp, x_iNoneType, x_ibool, x_iint, x_istr, x_ilist, x_ituple, x_idict⟩, f_init, _, fun_mk l_init c_init k_init, ⟨x_mk, x_in, x_fn, x_kp⟩, fun s v => .of_eq rfl⟩
end K07

/-! ## End_K07 -/
namespace K07
open PySem PySem.Spec PyProof.Rows L2 DL
theorem all_ok {P : Program} {w : World} {K : PySem.W.Frag} {mg : Str → Option Value} {base : Heap} (T : Top K mg) : FnOk P w K mg base CX0 10 T.a_law T.d_law ["script"] (spLaw K) := by
  have hG : HasGnd (kitG K T.C_Ground cv0) T.C_Ground cv0 := kitG_has cv0_keys
  have h_is_whole := ok_is_whole (κ := (kitG K T.C_Ground cv0)) (P := P) (w := w) (base := base) T (F := F_is_whole) law_is_whole rfl
  have c_is_whole := cal_is_whole T h_is_whole
  have h_is_count := ok_is_count (κ := (kitG K T.C_Ground cv0)) (P := P) (w := w) (base := base) T c_is_whole (F := F_is_count) law_is_count rfl
  have c_is_count := cal_is_count_0 T h_is_count
  have c_is_count_1 := cal_is_count_1 T h_is_count
  have h_is_text := ok_is_text (κ := (kitG K T.C_Ground cv0)) (P := P) (w := w) (base := base) T (F := F_is_text) law_is_text rfl
  have c_is_text := cal_is_text T h_is_text
  have h_is_rising := ok_is_rising (κ := (kitG K T.C_Ground cv0)) (P := P) (w := w) (base := base) T (F := F_is_rising) law_is_rising rfl
  have c_is_rising := cal_is_rising T h_is_rising
  have h_has := ok_has (κ := (kitG K T.C_Ground cv0)) (P := P) (w := w) (base := base) T (F := F_has) law_has rfl
  have c_has := cal_has T h_has
  have h_repeats := ok_repeats (κ := (kitG K T.C_Ground cv0)) (P := P) (w := w) (base := base) T c_has (F := F_repeats) law_repeats rfl
  have c_repeats := cal_repeats T h_repeats
  have h_many_words := ok_many_words (κ := (kitG K T.C_Ground cv0)) (P := P) (w := w) (base := base) T (F := F_many_words) law_many_words rfl
  have c_many_words := cal_many_words T h_many_words
  have h_primitives := ok_primitives (κ := (kitG K T.C_Ground cv0)) (P := P) (w := w) (base := base) T c_many_words (F := F_primitives) law_primitives rfl
  have c_primitives := cal_primitives T h_primitives
  have h_check_ground := ok_check_ground (κ := (kitG K T.C_Ground cv0)) (P := P) (w := w) (base := base) T hG (F := F_check_ground) law_check_ground rfl
  have c_check_ground := cal_check_ground T h_check_ground
  have h_is_text_of := ok_is_text_of (κ := (kitG K T.C_Ground cv0)) (P := P) (w := w) (base := base) T hG (F := F_is_text_of) law_is_text_of rfl
  have c_is_text_of := cal_is_text_of T h_is_text_of
  have h_is_window_of := ok_is_window_of (κ := (kitG K T.C_Ground cv0)) (P := P) (w := w) (base := base) T c_is_text_of hG (F := F_is_window_of) law_is_window_of rfl
  have c_is_window_of := cal_is_window_of T h_is_window_of
  have h_check_window := ok_check_window (κ := (kitG K T.C_Ground cv0)) (P := P) (w := w) (base := base) T c_is_window_of (F := F_check_window) law_check_window rfl
  have c_check_window := cal_check_window T h_check_window
  have h_words_of := ok_words_of (κ := (kitG K T.C_Ground cv0)) (P := P) (w := w) (base := base) T (F := F_words_of) law_words_of rfl
  have c_words_of := cal_words_of T h_words_of
  have h_own_list := ok_own_list (κ := (kitG K T.C_Ground cv0)) (P := P) (w := w) (base := base) T c_repeats c_words_of hG (F := F_own_list) law_own_list rfl
  have c_own_list := cal_own_list T h_own_list
  have h_distances_in := ok_distances_in (κ := (kitG K T.C_Ground cv0)) (P := P) (w := w) (base := base) T (F := F_distances_in) law_distances_in rfl
  have c_distances_in := cal_distances_in T h_distances_in
  have h_is_near := ok_is_near (κ := (kitG K T.C_Ground cv0)) (P := P) (w := w) (base := base) T c_distances_in (F := F_is_near) law_is_near rfl
  have c_is_near := cal_is_near T h_is_near
  have h_windows := ok_windows (κ := (kitG K T.C_Ground cv0)) (P := P) (w := w) (base := base) T c_check_ground c_words_of hG (F := F_windows) law_windows rfl
  have c_windows := cal_windows T h_windows
  have h_own_windows := ok_own_windows (κ := (kitG K T.C_Ground cv0)) (P := P) (w := w) (base := base) T c_check_ground c_own_list (F := F_own_windows) law_own_windows rfl
  have c_own_windows := cal_own_windows T h_own_windows
  have h_is_own := ok_is_own (κ := (kitG K T.C_Ground cv0)) (P := P) (w := w) (base := base) T c_check_ground c_check_window c_repeats hG (F := F_is_own) law_is_own rfl
  have c_is_own := cal_is_own T h_is_own
  have h_count_own := ok_count_own (κ := (kitG K T.C_Ground cv0)) (P := P) (w := w) (base := base) T c_many_words c_primitives hG (F := F_count_own) law_count_own rfl
  have c_count_own := cal_count_own T h_count_own
  have h_many_own := ok_many_own (κ := (kitG K T.C_Ground cv0)) (P := P) (w := w) (base := base) T c_check_ground c_count_own (F := F_many_own) law_many_own rfl
  have c_many_own := cal_many_own T h_many_own
  have h_near_ones := ok_near_ones (κ := (kitG K T.C_Ground cv0)) (P := P) (w := w) (base := base) T c_check_ground c_check_window c_is_near c_own_list hG (F := F_near_ones) law_near_ones rfl
  have c_near_ones := cal_near_ones T h_near_ones
  have h_next_ones := ok_next_ones (κ := (kitG K T.C_Ground cv0)) (P := P) (w := w) (base := base) T c_check_ground c_check_window hG (F := F_next_ones) law_next_ones rfl
  have c_next_ones := cal_next_ones T h_next_ones
  have h__law_dice := dice_of hG.d (ok__law_dice (κ := (kitG K T.C_Ground cv0)) (P := P) (w := w) (base := base) T pre_dice0 rfl) dice_step
  have c__law_dice := cal__law_dice T h__law_dice
  have h__law_mixed := ok__law_mixed (κ := (kitG K T.C_Ground cv0)) (P := P) (w := w) (base := base) T (F := F_mixed) pre_mixed rfl
  have c__law_mixed := cal__law_mixed T h__law_mixed
  have h__law_draw := ok__law_draw (κ := (kitG K T.C_Ground cv0)) (P := P) (w := w) (base := base) T c__law_mixed hG.d (F := F_draw) pre_draw rfl
  have c__law_draw := cal__law_draw T h__law_draw
  have h__law_one_of := ok__law_one_of (κ := (kitG K T.C_Ground cv0)) (P := P) (w := w) (base := base) T c__law_draw (F := F_one_of) pre_one_of rfl
  have c__law_one_of := cal__law_one_of T h__law_one_of
  have hx__law_exact : ∀ k : Nat, FnOk P w K mg base CX0 (k + 1) T.a__law_exact T.d__law_exact ["mine", "theirs"] (spD (kitG K T.C_Ground cv0) 2 (F_exact k)) := by
    intro k
    induction k with
    | zero => exact ok__law_exact T (Nat.zero_le _) (cal__law_exact (k := 0) T fn_none) (pre_exactF 0 F_none fun j h => nomatch h) rfl
    | succ k ih => exact ok__law_exact T (Nat.zero_le _) (cal__law_exact T ih) (pre_exactF (k + 1) (F_exact k) fun j h => by cases h; rfl) rfl
  have h__law_exact := (hx__law_exact 5).mono (k := 8) (by decide)
  have c__law_exact := cal__law_exact T h__law_exact
  have h__law_dices := ok__law_dices (κ := (kitG K T.C_Ground cv0)) (P := P) (w := w) (base := base) T c__law_dice (F := F_dices) pre_dices rfl
  have c__law_dices := cal__law_dices T h__law_dices
  have h__law_letters := ok__law_letters (κ := (kitG K T.C_Ground cv0)) (P := P) (w := w) (base := base) T c__law_draw (F := F__law_letters) law__law_letters rfl
  have c__law_letters := cal__law_letters T h__law_letters
  have h__law_ground := ok__law_ground (κ := (kitG K T.C_Ground cv0)) (P := P) (w := w) (base := base) T c__law_draw c__law_letters c__law_one_of (F := F__law_ground) law__law_ground rfl
  have c__law_ground := cal__law_ground T h__law_ground
  have h__law_repeats := ok__law_repeats (κ := (kitG K T.C_Ground cv0)) (P := P) (w := w) (base := base) T (F := F__law_repeats) law__law_repeats rfl
  have c__law_repeats := cal__law_repeats T h__law_repeats
  have h__law_words_of := ok__law_words_of (κ := (kitG K T.C_Ground cv0)) (P := P) (w := w) (base := base) T (F := F__law_words_of) law__law_words_of rfl
  have c__law_words_of := cal__law_words_of T h__law_words_of
  have h__law_own := ok__law_own (κ := (kitG K T.C_Ground cv0)) (P := P) (w := w) (base := base) T c__law_repeats c__law_words_of (F := F__law_own) law__law_own rfl
  have c__law_own := cal__law_own T h__law_own
  have h__law_behind_at := ok__law_behind_at (κ := (kitG K T.C_Ground cv0)) (P := P) (w := w) (base := base) T (F := F__law_behind_at) law__law_behind_at rfl
  have c__law_behind_at := cal__law_behind_at T h__law_behind_at
  have h__law_near := ok__law_near (κ := (kitG K T.C_Ground cv0)) (P := P) (w := w) (base := base) T c__law_behind_at (F := F__law_near) law__law_near rfl
  have c__law_near := cal__law_near T h__law_near
  have hI := ok_init (κ := (kitG K T.C_Ground cv0)) (P := P) (w := w) (base := base) T c_is_count_1 c_is_rising c_is_text hG law_init1 law_init2 rfl
  have h__law_made := ok__law_made (κ := (kitG K T.C_Ground cv0)) (P := P) (w := w) (base := base) T hG hI (F := F__law_made) law__law_made rfl
  have c__law_made := cal__law_made T h__law_made
  have h__law_power := ok__law_power (κ := (kitG K T.C_Ground cv0)) (P := P) (w := w) (base := base) T (F := F__law_power) law__law_power rfl
  have c__law_power := cal__law_power T h__law_power
  have h__law_great_ground := ok__law_great_ground (κ := (kitG K T.C_Ground cv0)) (P := P) (w := w) (base := base) T c__law_draw c__law_letters (F := F__law_great_ground) law__law_great_ground rfl
  have c__law_great_ground := cal__law_great_ground T h__law_great_ground
  have h__law_great_window := ok__law_great_window (κ := (kitG K T.C_Ground cv0)) (P := P) (w := w) (base := base) T c__law_draw c__law_one_of (F := F__law_great_window) law__law_great_window rfl
  have c__law_great_window := cal__law_great_window T h__law_great_window
  have h__law_many_ground := ok__law_many_ground (κ := (kitG K T.C_Ground cv0)) (P := P) (w := w) (base := base) T c__law_draw c__law_letters (F := F__law_many_ground) law__law_many_ground rfl
  have c__law_many_ground := cal__law_many_ground T h__law_many_ground
  have h__law_primitives := ok__law_primitives (κ := (kitG K T.C_Ground cv0)) (P := P) (w := w) (base := base) T c__law_power (F := F__law_primitives) law__law_primitives rfl
  have c__law_primitives := cal__law_primitives T h__law_primitives
  have h__law_great_right := ok__law_great_right (κ := (kitG K T.C_Ground cv0)) (P := P) (w := w) (base := base) T c__law_draw c__law_exact c__law_letters c__law_made c__law_power c__law_primitives c_many_own (F := F__law_great_right) law__law_great_right rfl
  have c__law_great_right := cal__law_great_right T h__law_great_right
  have h__law_ground_right := ok__law_ground_right (κ := (kitG K T.C_Ground cv0)) (P := P) (w := w) (base := base) T c__law_exact c__law_made c__law_near c__law_own c__law_words_of c_is_own c_many_own c_near_ones c_own_windows c_windows (F := F__law_ground_right) law__law_ground_right rfl
  have c__law_ground_right := cal__law_ground_right T h__law_ground_right
  have h__law_far_right := ok__law_far_right (κ := (kitG K T.C_Ground cv0)) (P := P) (w := w) (base := base) T c__law_exact c__law_great_ground c__law_great_window c__law_made c__law_repeats c_is_own c_next_ones (F := F__law_far_right) law__law_far_right rfl
  have c__law_far_right := cal__law_far_right T h__law_far_right
  have h_law := ok_law (κ := (kitG K T.C_Ground cv0)) (P := P) (w := w) (base := base) T c__law_dices c__law_draw c__law_exact c__law_far_right c__law_great_right c__law_great_window c__law_ground c__law_ground_right c__law_letters c__law_made c__law_many_ground c__law_near c__law_own c_many_own c_near_ones (F := F_law) law_law rfl
  have c_law := cal_law T h_law
  exact fn_law h_law rfl
theorem bind_ok {K : PySem.W.Frag} {mg : Str → Option Value} (T : Top K mg) : ∀ (s : Shared) (v : Value), BindsTo s T.d_law ⟨[v], []⟩ [("script", v)] := T.bind_law
theorem F_ok {P : Program} {w : World} {K : PySem.W.Frag} {mg : Str → Option Value} {fa : Addr} (T : Top K mg) (h : mg "law" = some (.ref fa)) : ∃ fd : FuncData, (∀ (s : Shared) (v : Value), BindsTo s fd ⟨[v], []⟩ [("script", v)]) ∧ ∀ base : Heap, K.In base → base.Ns mainGlobals mg → FnOk P w K mg base CX0 10 fa fd ["script"] (spLaw K) := by
  have e := h.symm.trans T.m_law
  cases e
  exact ⟨T.d_law, bind_ok T, fun base _ _ => all_ok T⟩
end K07
open PySem PySem.W PyProof.Rows
set_option maxHeartbeats 0 in
theorem PySem.Challenge.cw_owncuts_k07_whole_windows_and_own_ones_holds : PySem.Challenge.rw_owncuts_k07_whole_windows_and_own_ones.Holds := by
  w_on; o_law; k_head; (case hw => w_witness2)
  k_fill
  refine L2.walk_of (l := PySem.Challenge.rw_owncuts_k07_whole_windows_and_own_ones) (n := 63) (k := 10) (x := "script") (CX := fun _ => L2.CX0) (sp := fun w => DL.spLaw _) rfl (by decide) rfl ⟨rfl, by decide, by decide⟩ (fun w h Y => PySem.W.kIn_of Y) ?F (fun _ _ a ns hl _ hS => ⟨a, ns, rfl, hl, hS, fun _ => rfl⟩) (fun _ _ _ _ _ h => h)
  case F =>
    intro w mg fa h KX G hmg
    refine' K07.F_ok (K07.top_mk KX G ?a_is_whole ?l_is_whole ?c_is_whole ?k_is_whole ?a_is_count ?l_is_count ?c_is_count ?k_is_count ?t2_is_count ?a_is_text ?l_is_text ?c_is_text ?k_is_text ?a_is_rising ?l_is_rising ?c_is_rising ?k_is_rising ?a_has ?l_has ?c_has ?k_has ?a_repeats ?l_repeats ?c_repeats ?k_repeats ?a_many_words ?l_many_words ?c_many_words ?k_many_words ?a_primitives ?l_primitives ?c_primitives ?k_primitives ?a_check_ground ?l_check_ground ?c_check_ground ?k_check_ground ?a_is_text_of ?l_is_text_of ?c_is_text_of ?k_is_text_of ?a_is_window_of ?l_is_window_of ?c_is_window_of ?k_is_window_of ?a_check_window ?l_check_window ?c_check_window ?k_check_window ?a_words_of ?l_words_of ?c_words_of ?k_words_of ?a_own_list ?l_own_list ?c_own_list ?k_own_list ?a_distances_in ?l_distances_in ?c_distances_in ?k_distances_in ?a_is_near ?l_is_near ?c_is_near ?k_is_near ?a_windows ?l_windows ?c_windows ?k_windows ?a_own_windows ?l_own_windows ?c_own_windows ?k_own_windows ?a_is_own ?l_is_own ?c_is_own ?k_is_own ?a_count_own ?l_count_own ?c_count_own ?k_count_own ?a_many_own ?l_many_own ?c_many_own ?k_many_own ?a_near_ones ?l_near_ones ?c_near_ones ?k_near_ones ?a_next_ones ?l_next_ones ?c_next_ones ?k_next_ones ?a__law_dice ?l__law_dice ?c__law_dice ?k__law_dice ?a__law_mixed ?l__law_mixed ?c__law_mixed ?k__law_mixed ?a__law_draw ?l__law_draw ?c__law_draw ?k__law_draw ?a__law_one_of ?l__law_one_of ?c__law_one_of ?k__law_one_of ?a__law_exact ?l__law_exact ?c__law_exact ?k__law_exact ?a__law_dices ?l__law_dices ?c__law_dices ?k__law_dices ?a__law_letters ?l__law_letters ?c__law_letters ?k__law_letters ?a__law_ground ?l__law_ground ?c__law_ground ?k__law_ground ?a__law_repeats ?l__law_repeats ?c__law_repeats ?k__law_repeats ?a__law_words_of ?l__law_words_of ?c__law_words_of ?k__law_words_of ?a__law_own ?l__law_own ?c__law_own ?k__law_own ?a__law_behind_at ?l__law_behind_at ?c__law_behind_at ?k__law_behind_at ?a__law_near ?l__law_near ?c__law_near ?k__law_near ?a__law_made ?l__law_made ?c__law_made ?k__law_made ?a__law_power ?l__law_power ?c__law_power ?k__law_power ?a__law_great_ground ?l__law_great_ground ?c__law_great_ground ?k__law_great_ground ?a__law_great_window ?l__law_great_window ?c__law_great_window ?k__law_great_window ?a__law_many_ground ?l__law_many_ground ?c__law_many_ground ?k__law_many_ground ?a__law_primitives ?l__law_primitives ?c__law_primitives ?k__law_primitives ?a__law_great_right ?l__law_great_right ?c__law_great_right ?k__law_great_right ?a__law_ground_right ?l__law_ground_right ?c__law_ground_right ?k__law_ground_right ?a__law_far_right ?l__law_far_right ?c__law_far_right ?k__law_far_right ?a_law ?l_law ?c_law ?k_law ?x_C ?x_pg ?x_hd ?x_po ?x_sa ?x_nR ?x_nL ?x_nS ?x_nK ?x_ha ?x_hn ?x_htk ?x_hm ?x_kp ?x_iNoneType ?x_ibool ?x_iint ?x_istr ?x_ilist ?x_ituple ?x_idict ?x_mk ?x_in ?x_fn ?l_init ?c_init ?k_init ?z_all ?z_any ?z_bool ?z_dict ?z_int ?z_isinstance ?z_len ?z_list ?z_max ?z_min ?z_range ?z_sorted ?z_str ?z_sum ?z_tuple ?z_zip) hmg
    (case a_is_whole => k_is); (case l_is_whole => k_is); (case c_is_whole => k_is); (case k_is_whole => k_is); (case a_is_count => k_is); (case l_is_count => k_is); (case c_is_count => k_is); (case k_is_count => k_is); (case t2_is_count => k_is); (case a_is_text => k_is); (case l_is_text => k_is); (case c_is_text => k_is); (case k_is_text => k_is); (case a_is_rising => k_is); (case l_is_rising => k_is); (case c_is_rising => k_is); (case k_is_rising => k_is); (case a_has => k_is); (case l_has => k_is); (case c_has => k_is); (case k_has => k_is); (case a_repeats => k_is); (case l_repeats => k_is); (case c_repeats => k_is); (case k_repeats => k_is); (case a_many_words => k_is); (case l_many_words => k_is); (case c_many_words => k_is); (case k_many_words => k_is); (case a_primitives => k_is); (case l_primitives => k_is); (case c_primitives => k_is); (case k_primitives => k_is); (case a_check_ground => k_is); (case l_check_ground => k_is); (case c_check_ground => k_is); (case k_check_ground => k_is); (case a_is_text_of => k_is); (case l_is_text_of => k_is); (case c_is_text_of => k_is); (case k_is_text_of => k_is); (case a_is_window_of => k_is); (case l_is_window_of => k_is); (case c_is_window_of => k_is); (case k_is_window_of => k_is); (case a_check_window => k_is); (case l_check_window => k_is); (case c_check_window => k_is); (case k_check_window => k_is); (case a_words_of => k_is); (case l_words_of => k_is); (case c_words_of => k_is); (case k_words_of => k_is); (case a_own_list => k_is); (case l_own_list => k_is); (case c_own_list => k_is); (case k_own_list => k_is); (case a_distances_in => k_is); (case l_distances_in => k_is); (case c_distances_in => k_is); (case k_distances_in => k_is); (case a_is_near => k_is); (case l_is_near => k_is); (case c_is_near => k_is); (case k_is_near => k_is); (case a_windows => k_is); (case l_windows => k_is); (case c_windows => k_is); (case k_windows => k_is); (case a_own_windows => k_is); (case l_own_windows => k_is); (case c_own_windows => k_is); (case k_own_windows => k_is); (case a_is_own => k_is); (case l_is_own => k_is); (case c_is_own => k_is); (case k_is_own => k_is); (case a_count_own => k_is); (case l_count_own => k_is); (case c_count_own => k_is); (case k_count_own => k_is); (case a_many_own => k_is); (case l_many_own => k_is); (case c_many_own => k_is); (case k_many_own => k_is); (case a_near_ones => k_is); (case l_near_ones => k_is); (case c_near_ones => k_is); (case k_near_ones => k_is); (case a_next_ones => k_is); (case l_next_ones => k_is); (case c_next_ones => k_is); (case k_next_ones => k_is); (case a__law_dice => k_is); (case l__law_dice => k_is); (case c__law_dice => k_is); (case k__law_dice => k_is); (case a__law_mixed => k_is); (case l__law_mixed => k_is); (case c__law_mixed => k_is); (case k__law_mixed => k_is); (case a__law_draw => k_is); (case l__law_draw => k_is); (case c__law_draw => k_is); (case k__law_draw => k_is); (case a__law_one_of => k_is); (case l__law_one_of => k_is); (case c__law_one_of => k_is); (case k__law_one_of => k_is); (case a__law_exact => k_is); (case l__law_exact => k_is); (case c__law_exact => k_is); (case k__law_exact => k_is); (case a__law_dices => k_is); (case l__law_dices => k_is); (case c__law_dices => k_is); (case k__law_dices => k_is); (case a__law_letters => k_is); (case l__law_letters => k_is); (case c__law_letters => k_is); (case k__law_letters => k_is); (case a__law_ground => k_is); (case l__law_ground => k_is); (case c__law_ground => k_is); (case k__law_ground => k_is); (case a__law_repeats => k_is); (case l__law_repeats => k_is); (case c__law_repeats => k_is); (case k__law_repeats => k_is); (case a__law_words_of => k_is); (case l__law_words_of => k_is); (case c__law_words_of => k_is); (case k__law_words_of => k_is); (case a__law_own => k_is); (case l__law_own => k_is); (case c__law_own => k_is); (case k__law_own => k_is); (case a__law_behind_at => k_is); (case l__law_behind_at => k_is); (case c__law_behind_at => k_is); (case k__law_behind_at => k_is); (case a__law_near => k_is); (case l__law_near => k_is); (case c__law_near => k_is); (case k__law_near => k_is); (case a__law_made => k_is); (case l__law_made => k_is); (case c__law_made => k_is); (case k__law_made => k_is); (case a__law_power => k_is); (case l__law_power => k_is); (case c__law_power => k_is); (case k__law_power => k_is); (case a__law_great_ground => k_is); (case l__law_great_ground => k_is); (case c__law_great_ground => k_is); (case k__law_great_ground => k_is); (case a__law_great_window => k_is); (case l__law_great_window => k_is); (case c__law_great_window => k_is); (case k__law_great_window => k_is); (case a__law_many_ground => k_is); (case l__law_many_ground => k_is); (case c__law_many_ground => k_is); (case k__law_many_ground => k_is); (case a__law_primitives => k_is); (case l__law_primitives => k_is); (case c__law_primitives => k_is); (case k__law_primitives => k_is); (case a__law_great_right => k_is); (case l__law_great_right => k_is); (case c__law_great_right => k_is); (case k__law_great_right => k_is); (case a__law_ground_right => k_is); (case l__law_ground_right => k_is); (case c__law_ground_right => k_is); (case k__law_ground_right => k_is); (case a__law_far_right => k_is); (case l__law_far_right => k_is); (case c__law_far_right => k_is); (case k__law_far_right => k_is); (case a_law => k_is); (case l_law => k_is); (case c_law => k_is); (case k_law => k_is); (case x_C => k_is); (case x_pg => k_is); (case x_hd => k_is); (case x_po => k_is); (case x_sa => k_is); (case x_nR => k_is); (case x_nL => k_is); (case x_nS => k_is); (case x_nK => k_is); (case x_ha => k_is); (case x_hn => k_is); (case x_htk => k_is); (case x_hm => k_is); (case x_kp => k_is); (case x_iNoneType => kit_is); (case x_ibool => kit_is); (case x_iint => kit_is); (case x_istr => kit_is); (case x_ilist => kit_is); (case x_ituple => kit_is); (case x_idict => kit_is); (case x_mk => k_is); (case x_in => k_is); (case x_fn => k_is); (case l_init => k_is); (case c_init => k_is); (case k_init => k_is); (case z_all => k_is); (case z_any => k_is); (case z_bool => k_is); (case z_dict => k_is); (case z_int => k_is); (case z_isinstance => k_is); (case z_len => k_is); (case z_list => k_is); (case z_max => k_is); (case z_min => k_is); (case z_range => k_is); (case z_sorted => k_is); (case z_str => k_is); (case z_sum => k_is); (case z_tuple => k_is); (case z_zip => k_is)

