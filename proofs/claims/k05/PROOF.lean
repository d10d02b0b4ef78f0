import PyProof.Rows.All
import HandS.ForMost
import HandS.Wide
import HandS.IsInst
import HandS.WideBits
import HandS.Star
import HandS.Sort
import HandS.Conv
import HandS.Zip
import HandS.Steps
import HandS.Defaults
import HandS.TupAny
import HandS.MakeKw
import HandS.Style
import HandS.More
import HandS.DictComp
import HandS.SortInts
import PyProof.Rows.SortShellAny
import HandS.Lambda
import KE.KSortKey
import HandS.SortKw
import HandS.EndTab
import HandS.EndOwn
import HandS.RaiseMore
import HandS.SortOrd
import PyProof.Rows.SortKeyStr
import HandS.Deep
import PySem.Challenge.RW_owncuts_k05_whole_meeting_periods_and_st
set_option Elab.async false
set_option linter.all false
set_option maxRecDepth 100000
set_option maxHeartbeats 4000000
namespace DL
open PySem PySem.Spec PyProof.Rows L2
/-- data: what a value stands for -/
inductive D where
  | non | bl (b : Bool) | int (i : Int) | str (s : List Nat)
  | lst (xs : List D) | tup (xs : List D) | dct (ks vs : List D) | dcu (ks vs : List D)
  | obj (c : Nat) (fs : List D) | box (t : Nat) (ps : List D) | scr (ns : List Int)
mutual
def D.beq : D → D → Bool
  | .non, .non => true
  | .bl a, .bl b => a == b
  | .int a, .int b => a == b
  | .str a, .str b => a == b
  | .lst a, .lst b => D.beqs a b
  | .tup a, .tup b => D.beqs a b
  | .dct a b, .dct c d => D.beqs a c && D.beqs b d
  | .dcu a b, .dcu c d => D.beqs a c && D.beqs b d
  | .obj a b, .obj c d => a == c && D.beqs b d
  | .box a b, .box c d => a == c && D.beqs b d
  | .scr a, .scr b => a == b
  | _, _ => false
def D.beqs : List D → List D → Bool
  | [], [] => true
  | a :: as, b :: bs => D.beq a b && D.beqs as bs
  | _, _ => false
end
mutual
theorem D.beq_eq : ∀ {a b : D}, D.beq a b = true → a = b
  | .non, b, h => by cases b <;> simp [D.beq] at h ⊢
  | .bl _, b, h => by cases b <;> simp [D.beq] at h ⊢; exact h
  | .int _, b, h => by cases b <;> simp [D.beq] at h ⊢; exact h
  | .str _, b, h => by cases b <;> simp [D.beq] at h ⊢; exact h
  | .lst _, b, h => by cases b <;> simp [D.beq] at h ⊢; exact D.beqs_eq h
  | .tup _, b, h => by cases b <;> simp [D.beq] at h ⊢; exact D.beqs_eq h
  | .dct _ _, b, h => by cases b <;> simp [D.beq] at h ⊢; exact ⟨D.beqs_eq h.1, D.beqs_eq h.2⟩
  | .dcu _ _, b, h => by cases b <;> simp [D.beq] at h ⊢; exact ⟨D.beqs_eq h.1, D.beqs_eq h.2⟩
  | .obj _ _, b, h => by cases b <;> simp [D.beq] at h ⊢; exact ⟨h.1, D.beqs_eq h.2⟩
  | .box _ _, b, h => by cases b <;> simp [D.beq] at h ⊢; exact ⟨h.1, D.beqs_eq h.2⟩
  | .scr _, b, h => by cases b <;> simp [D.beq] at h ⊢; exact h
theorem D.beqs_eq : ∀ {a b : List D}, D.beqs a b = true → a = b
  | [], [], _ => rfl
  | [], _ :: _, h => by simp [D.beqs] at h
  | _ :: _, [], h => by simp [D.beqs] at h
  | a :: as, b :: bs, h => by
    simp only [D.beqs, Bool.and_eq_true] at h
    rw [D.beq_eq h.1, D.beqs_eq h.2]
end
mutual
theorem D.beq_refl : ∀ a : D, D.beq a a = true
  | .non => rfl
  | .bl _ => by simp [D.beq]
  | .int _ => by simp [D.beq]
  | .str _ => by simp [D.beq]
  | .lst a => by simp only [D.beq]; exact D.beqs_refl a
  | .tup a => by simp only [D.beq]; exact D.beqs_refl a
  | .dct a b => by simp only [D.beq, D.beqs_refl a, D.beqs_refl b]; rfl
  | .dcu a b => by simp only [D.beq, D.beqs_refl a, D.beqs_refl b]; rfl
  | .obj a b => by simp only [D.beq, D.beqs_refl b]; simp
  | .box a b => by simp only [D.beq, D.beqs_refl b]; simp
  | .scr _ => by simp [D.beq]
theorem D.beqs_refl : ∀ a : List D, D.beqs a a = true
  | [] => rfl
  | a :: as => by simp only [D.beqs, D.beq_refl a, D.beqs_refl as]; rfl
end
instance : DecidableEq D := fun a b => if h : D.beq a b = true then .isTrue (D.beq_eq h) else .isFalse fun e => h (by rw [e]; exact D.beq_refl b)
instance : Inhabited D := ⟨.non⟩
/-- the shared world: frozen objects, objects under an invariant, a count -/
structure Wd where
  fz : Hp
  iv : Addr → Option (Nat × List D)
  n : Nat
/-- a tuple of numbers and texts, which nobody can change -/
def isKV : V → Bool
  | .int _ => true | .str _ => true | _ => false
def isKT : HO → Bool
  | .tup vs => vs.all isKV | _ => false
structure Kit where
  K : PySem.W.Frag
  cls : Nat → Option (Addr × List Str)
  J : Nat → List D → Wd → HO → Prop
  fx : Addr → Option (Nat × List D) := fun _ => none
  mono : ∀ t ps (P P' : Wd) o, (∀ a u, P.fz a = some u → P'.fz a = some u) → (∀ a u, P.iv a = some u → P'.iv a = some u) → P.n ≤ P'.n → J t ps P o → J t ps P' o
  jk : ∀ t ps P o, J t ps P o → isKT o = false
def keyD : Key → D
  | .inl i => .int i
  | .inr x => .str x.cps.toList
abbrev IV := Addr → Option (Nat × List D)
/-- a text's size and signs -/
def OkS (s : List Nat) : Prop := s.length ≤ sizeLine ∧ ∀ c ∈ s, c < 1114112
theorem OkS.nil : OkS [] := ⟨Nat.zero_le _, fun _ h => nomatch h⟩
theorem OkS.take {s : List Nat} (h : OkS s) (n : Nat) : OkS (s.take n) := ⟨Nat.le_trans (by rw [List.length_take]; exact Nat.min_le_right _ _) h.1, fun c hc => h.2 c (List.mem_of_mem_take hc)⟩
theorem OkS.drop {s : List Nat} (h : OkS s) (n : Nat) : OkS (s.drop n) := ⟨Nat.le_trans (by rw [List.length_drop]; exact Nat.sub_le _ _) h.1, fun c hc => h.2 c (List.mem_of_mem_drop hc)⟩
theorem OkS.one {s : List Nat} (h : OkS s) {c : Nat} (hc : c ∈ s) : OkS [c] := ⟨by show 1 ≤ sizeLine; decide, fun d hd => by rw [List.mem_singleton.mp hd]; exact h.2 c hc⟩
theorem OkS.app {s t : List Nat} (h : OkS s) (k : OkS t) (z : s.length + t.length ≤ sizeLine) : OkS (s ++ t) := ⟨by rw [List.length_append]; exact z, fun c hc => (List.mem_append.mp hc).elim (h.2 c) (k.2 c)⟩
/-- a dict's keys: no one twice, texts as texts are -/
def OkK : Key → Prop
  | .inl _ => True
  | .inr x => OkS x.cps.toList
def OkKs (ks : List Key) : Prop := ks.Nodup ∧ ∀ k ∈ ks, OkK k
def OkKt (ks : List (List Key)) : Prop := ks.Nodup ∧ ∀ k ∈ ks, k.length ≤ sizeLine ∧ ∀ j ∈ k, OkK j
mutual
inductive Rep (κ : Kit) (G : Hp) (iv : IV) : V → D → Prop
  | non : Rep κ G iv .non .non
  | bl {b : Bool} : Rep κ G iv (.bl b) (.bl b)
  | int {i : Int} : Rep κ G iv (.int i) (.int i)
  | str {s : List Nat} (h : OkS s) : Rep κ G iv (.str ⟨s.toArray⟩) (.str s)
  | lst {a : Addr} {vs : List V} {xs : List D} (h : G a = some (.lst vs)) (z : vs.length ≤ sizeLine) (r : Reps κ G iv vs xs) : Rep κ G iv (.ref a) (.lst xs)
  | tup {a : Addr} {vs : List V} {xs : List D} (h : G a = some (.tup vs)) (z : vs.length ≤ sizeLine) (r : Reps κ G iv vs xs) : Rep κ G iv (.ref a) (.tup xs)
  | dctK {a : Addr} {ks : List Key} {us : List V} {vs : List D} (h : G a = some (.dK (ks.zip us))) (hl : ks.length = us.length) (z : ks.length ≤ sizeLine) (nd : OkKs ks) (r : Reps κ G iv us vs) : Rep κ G iv (.ref a) (.dct (ks.map keyD) vs)
  | dctT {a : Addr} {ks : List (List Key)} {us : List V} {vs : List D} (h : G a = some (.dT (ks.zip us))) (hl : ks.length = us.length) (z : ks.length ≤ sizeLine) (nd : OkKt ks) (r : Reps κ G iv us vs) : Rep κ G iv (.ref a) (.dcu (ks.map fun k => .tup (k.map keyD)) vs)
  | obj {a C dx : Addr} {c : Nat} {names : List Str} {us : List V} {fs : List D} (hc : κ.cls c = some (C, names)) (h : G a = some (.ins C dx (names.zip us))) (hl : names.length = us.length) (r : Reps κ G iv us fs) : Rep κ G iv (.ref a) (.obj c fs)
  | box {a : Addr} {t : Nat} {ps : List D} (h : iv a = some (t, ps)) : Rep κ G iv (.ref a) (.box t ps)
  | scr {a : Addr} {ns : List Int} (h : SqL κ.K G a (ns.map V.int)) (z : ns.length ≤ sizeLine) : Rep κ G iv (.ref a) (.scr ns)
inductive Reps (κ : Kit) (G : Hp) (iv : IV) : List V → List D → Prop
  | nil : Reps κ G iv [] []
  | cons {v : V} {d : D} {vs : List V} {ds : List D} (r : Rep κ G iv v d) (t : Reps κ G iv vs ds) : Reps κ G iv (v :: vs) (d :: ds)
end
/-- a dict, which a walk may lock -/
def isDk : HO → Bool
  | .dK _ => true | .dT _ => true | _ => false
/-- it is there, or there and locked -/
def At (H : Hp) (a : Addr) (o : HO) : Prop := H a = some o ∨ (isDk o = true ∧ ∃ od, H a = some (.frz od o))
theorem At.x {H : Hp} {a : Addr} {o : HO} (h : At H a o) (hd : isDk o = false) : H a = some o := by
  rcases h with h | ⟨h, _⟩
  · exact h
  · rw [hd] at h; cases h
theorem At.dom {H : Hp} {a : Addr} {o : HO} (h : At H a o) : ∃ u, H a = some u := by
  rcases h with h | ⟨_, od, h⟩
  · exact ⟨_, h⟩
  · exact ⟨_, h⟩
theorem At.of {H H' : Hp} {a : Addr} {o : HO} (h : At H a o) (e : H' a = H a) : At H' a o := by
  unfold At at h ⊢
  rw [e]; exact h
theorem At.rd {H : Hp} {a : Addr} {o : HO} (h : At H a o) : Rd H a o := by
  rcases h with h | ⟨_, od, h⟩
  · exact .inl h
  · exact .inr ⟨od, h⟩
theorem sql_at {K : PySem.W.Frag} {G H : Hp} (h : ∀ a o, G a = some o → At H a o) {a : Addr} {xs : List V} (q : SqL K G a xs) : SqL K H a xs := by
  rcases q with (q | ⟨o, q⟩) | q
  · exact .inl (.inl ((h _ _ q).x rfl))
  · exact .inl (.inr ⟨o, (h _ _ q).x rfl⟩)
  · exact .inr q
theorem sql_mono {K : PySem.W.Frag} {G H : Hp} (h : ∀ a o, G a = some o → H a = some o) {a : Addr} {xs : List V} (q : SqL K G a xs) : SqL K H a xs := by
  rcases q with (q | ⟨o, q⟩) | q
  · exact .inl (.inl (h _ _ q))
  · exact .inl (.inr ⟨o, h _ _ q⟩)
  · exact .inr q
section
variable {κ : Kit} {G G' : Hp} {iv iv' : IV}
mutual
theorem Rep.mono (hg : ∀ a o, G a = some o → G' a = some o) (hi : ∀ a t, iv a = some t → iv' a = some t) : ∀ {v : V} {d : D}, Rep κ G iv v d → Rep κ G' iv' v d
  | _, _, .non => .non
  | _, _, .bl => .bl
  | _, _, .int => .int
  | _, _, .str h => .str h
  | _, _, .lst h z r => .lst (hg _ _ h) z (Reps.mono hg hi r)
  | _, _, .tup h z r => .tup (hg _ _ h) z (Reps.mono hg hi r)
  | _, _, .dctK h hl z nd r => .dctK (hg _ _ h) hl z nd (Reps.mono hg hi r)
  | _, _, .dctT h hl z nd r => .dctT (hg _ _ h) hl z nd (Reps.mono hg hi r)
  | _, _, .obj hc h hl r => .obj hc (hg _ _ h) hl (Reps.mono hg hi r)
  | _, _, .box h => .box (hi _ _ h)
  | _, _, .scr h z => .scr (sql_mono hg h) z
theorem Reps.mono (hg : ∀ a o, G a = some o → G' a = some o) (hi : ∀ a t, iv a = some t → iv' a = some t) : ∀ {vs : List V} {ds : List D}, Reps κ G iv vs ds → Reps κ G' iv' vs ds
  | _, _, .nil => .nil
  | _, _, .cons r t => .cons (Rep.mono hg hi r) (Reps.mono hg hi t)
end
theorem Reps.length : ∀ {vs : List V} {ds : List D}, Reps κ G iv vs ds → vs.length = ds.length
  | _, _, .nil => rfl
  | _, _, .cons _ t => by rw [List.length_cons, List.length_cons, Reps.length t]
theorem Reps.get : ∀ {vs : List V} {ds : List D} {i : Nat} {d : D}, Reps κ G iv vs ds → ds[i]? = some d → ∃ v, vs[i]? = some v ∧ Rep κ G iv v d
  | _, _, _, _, .nil, e => by simp at e
  | _, _, 0, _, .cons r _, e => by simp at e; subst e; exact ⟨_, rfl, r⟩
  | _, _, i + 1, d, .cons _ t, e => by
    obtain ⟨v, h1, h2⟩ := Reps.get (i := i) (d := d) t (by simpa using e)
    exact ⟨v, by simpa using h1, h2⟩
theorem Reps.append : ∀ {vs us : List V} {ds es : List D}, Reps κ G iv vs ds → Reps κ G iv us es → Reps κ G iv (vs ++ us) (ds ++ es)
  | _, _, _, _, .nil, s => s
  | _, _, _, _, .cons r t, s => .cons r (Reps.append t s)
theorem Reps.take : ∀ {vs : List V} {ds : List D} (n : Nat), Reps κ G iv vs ds → Reps κ G iv (vs.take n) (ds.take n)
  | _, _, 0, _ => .nil
  | _, _, _ + 1, .nil => .nil
  | _, _, n + 1, .cons r t => .cons r (Reps.take n t)
theorem Reps.drop : ∀ {vs : List V} {ds : List D} (n : Nat), Reps κ G iv vs ds → Reps κ G iv (vs.drop n) (ds.drop n)
  | _, _, 0, r => r
  | _, _, _ + 1, .nil => .nil
  | _, _, n + 1, .cons _ t => Reps.drop n t
theorem Reps.set {v : V} {d : D} (r : Rep κ G iv v d) : ∀ {vs : List V} {ds : List D} (i : Nat), Reps κ G iv vs ds → Reps κ G iv (vs.set i v) (ds.set i d)
  | _, _, _, .nil => .nil
  | _, _, 0, .cons _ t => .cons r t
  | _, _, i + 1, .cons q t => .cons q (Reps.set r i t)
theorem Reps.reverse : ∀ {vs : List V} {ds : List D}, Reps κ G iv vs ds → Reps κ G iv vs.reverse ds.reverse
  | _, _, .nil => .nil
  | _, _, .cons r t => by rw [List.reverse_cons, List.reverse_cons]; exact Reps.append (Reps.reverse t) (.cons r .nil)
theorem Reps.ints : ∀ {ns : List Int}, Reps κ G iv (ns.map V.int) (ns.map D.int)
  | [] => .nil
  | _ :: _ => .cons .int Reps.ints
/-- what stands for ints is ints -/
theorem Reps.of_ints : ∀ {vs : List V} {ns : List Int}, Reps κ G iv vs (ns.map D.int) → vs = ns.map V.int
  | _, [], .nil => rfl
  | _, n :: ns, .cons r t => by cases r; rw [Reps.of_ints t]; rfl
theorem Reps.of_bls : ∀ {vs : List V} {bs : List Bool}, Reps κ G iv vs (bs.map D.bl) → vs = bs.map V.bl
  | _, [], .nil => rfl
  | _, n :: ns, .cons r t => by cases r; rw [Reps.of_bls t]; rfl
theorem Reps.of_strs : ∀ {vs : List V} {ss : List (List Nat)}, Reps κ G iv vs (ss.map D.str) → vs = (ss.map fun s => (⟨s.toArray⟩ : Str)).map V.str ∧ ∀ s ∈ ss, OkS s
  | _, [], .nil => ⟨rfl, fun _ h => nomatch h⟩
  | _, n :: ns, .cons r t => by
    cases r with
    | str h =>
      obtain ⟨e, q⟩ := Reps.of_strs t
      exact ⟨by rw [e]; rfl, fun s hs => by
        rcases List.mem_cons.mp hs with rfl | hs
        · exact h
        · exact q s hs⟩
end
/-- as before, but a tuple of keys may be frozen late -/
def Kp (P : Wd) (o : HO) (u u' : Option HO) (a : Addr) : Prop := u' = u ∨ (isKT o = true ∧ P.iv a = none ∧ u' = some o)
theorem Kp.same {P : Wd} {o : HO} {u u' : Option HO} {a : Addr} (h : Kp P o u u' a) (hk : isKT o = false) : u' = u := by
  rcases h with h | ⟨h, _⟩
  · exact h
  · rw [hk] at h; cases h
structure Grow (P : Wd) (G H : Hp) (P' : Wd) (G' H' : Hp) : Prop where
  fz : ∀ a o, P.fz a = some o → P'.fz a = some o
  iv : ∀ a t, P.iv a = some t → P'.iv a = some t
  n : P.n ≤ P'.n
  g : ∀ a o, G a = some o → G' a = some o
  h : ∀ a o, H a = some o → P.iv a = none → H' a = some o
  dom : ∀ a o, H a = some o → ∃ o', H' a = some o'
  fresh : ∀ a o, H a = some o → P'.iv a = P.iv a ∧ Kp P o (P.fz a) (P'.fz a) a ∧ Kp P o (G a) (G' a) a
structure Good (κ : Kit) (P : Wd) (G H : Hp) : Prop where
  pg : ∀ a o, P.fz a = some o → G a = some o
  gh : ∀ a o, G a = some o → At H a o
  gi : ∀ a t, P.iv a = some t → G a = none ∧ ∃ o, H a = some o ∧ κ.J t.1 t.2 P o
  fx : ∀ a t, κ.fx a = some t → P.iv a = some t
theorem Good.gx {κ : Kit} {P : Wd} {G H : Hp} (g : Good κ P G H) {a : Addr} {o : HO} (h : G a = some o) (hd : isDk o = false) : H a = some o := (g.gh a o h).x hd
section
variable {κ : Kit} {P P1 P2 : Wd} {G G1 G2 H H1 H2 : Hp}
theorem Grow.refl : Grow P G H P G H := ⟨fun _ _ h => h, fun _ _ h => h, Nat.le_refl _, fun _ _ h => h, fun _ _ h _ => h, fun _ o h => ⟨o, h⟩, fun _ _ _ => ⟨rfl, .inl rfl, .inl rfl⟩⟩
theorem Grow.trans (a : Grow P G H P1 G1 H1) (b : Grow P1 G1 H1 P2 G2 H2) : Grow P G H P2 G2 H2 where
  fz := fun x o h => b.fz x o (a.fz x o h)
  iv := fun x o h => b.iv x o (a.iv x o h)
  n := Nat.le_trans a.n b.n
  g := fun x o h => b.g x o (a.g x o h)
  h := fun x o h n => b.h x o (a.h x o h n) (by rw [(a.fresh x o h).1]; exact n)
  dom := fun x o h => by
    obtain ⟨o', h'⟩ := a.dom x o h
    exact b.dom x o' h'
  fresh := fun x o h => by
    obtain ⟨o', h'⟩ := a.dom x o h
    obtain ⟨a1, a2, a3⟩ := a.fresh x o h
    obtain ⟨b1, b2, b3⟩ := b.fresh x o' h'
    have e : P.iv x = none → o' = o := fun n => by
      have := a.h x o h n
      rw [this] at h'; cases h'; rfl
    refine ⟨b1.trans a1, ?_, ?_⟩
    · rcases b2 with b2 | ⟨k1, k2, k3⟩
      · rcases a2 with a2 | ⟨j1, j2, j3⟩
        · exact .inl (b2.trans a2)
        · exact .inr ⟨j1, j2, b.fz x _ j3⟩
      · rw [a1] at k2
        have := e k2; subst this
        exact .inr ⟨k1, k2, k3⟩
    · rcases b3 with b3 | ⟨k1, k2, k3⟩
      · rcases a3 with a3 | ⟨j1, j2, j3⟩
        · exact .inl (b3.trans a3)
        · exact .inr ⟨j1, j2, b.g x _ j3⟩
      · rw [a1] at k2
        have := e k2; subst this
        exact .inr ⟨k1, k2, k3⟩
/-- what is no tuple of keys stays as it was, frozen or not -/
theorem Grow.same {a : Addr} {o : HO} (gr : Grow P G H P1 G1 H1) (h : H a = some o) (hk : isKT o = false := by rfl) : G1 a = G a := (gr.fresh a o h).2.2.same hk
theorem Grow.rep {v : V} {d : D} (a : Grow P G H P1 G1 H1) (r : Rep κ G P.iv v d) : Rep κ G1 P1.iv v d := r.mono a.g a.iv
theorem Grow.reps {v : List V} {d : List D} (a : Grow P G H P1 G1 H1) (r : Reps κ G P.iv v d) : Reps κ G1 P1.iv v d := r.mono a.g a.iv
/-- a new object, private -/
theorem Grow.new {p : Addr} {o : HO} (h : H p = none) : Grow P G H P G (upd H p o) :=
  ⟨fun _ _ h => h, fun _ _ h => h, Nat.le_refl _, fun _ _ h => h, fun a u e _ => by rw [upd_ne (ne_of_none e h)]; exact e, fun a u e => ⟨u, by rw [upd_ne (ne_of_none e h)]; exact e⟩, fun _ _ _ => ⟨rfl, .inl rfl, .inl rfl⟩⟩
theorem Good.gnone (g : Good κ P G H) {p : Addr} (h : H p = none) : G p = none := by
  cases e : G p with
  | none => rfl
  | some o => obtain ⟨u, q⟩ := (g.gh p o e).dom; rw [q] at h; cases h
theorem Good.inone (g : Good κ P G H) {p : Addr} (h : H p = none) : P.iv p = none := by
  cases e : P.iv p with
  | none => rfl
  | some t =>
    obtain ⟨_, o, q, _⟩ := g.gi p t e
    rw [q] at h; cases h
theorem Good.new {p : Addr} {o : HO} (g : Good κ P G H) (h : H p = none) : Good κ P G (upd H p o) where
  pg := g.pg
  fx := g.fx
  gh := fun a u e => by
    have e1 := g.gh a u e
    obtain ⟨w, q⟩ := e1.dom
    exact e1.of (upd_ne (ne_of_none q h))
  gi := fun a t e => by
    obtain ⟨q1, u, q2, q3⟩ := g.gi a t e
    exact ⟨q1, u, by rw [upd_ne (ne_of_none q2 h)]; exact q2, q3⟩
/-- a private object changes -/
theorem Good.put {p : Addr} {o : HO} (g : Good κ P G H) (hg : G p = none) (hi : P.iv p = none) : Good κ P G (upd H p o) where
  pg := g.pg
  fx := g.fx
  gh := fun a u e => by
    have hne : a ≠ p := ne_of_none e hg
    exact (g.gh a u e).of (upd_ne hne)
  gi := fun a t e => by
    obtain ⟨q1, u, q2, q3⟩ := g.gi a t e
    have hne : a ≠ p := fun z => by subst z; rw [hi] at e; cases e
    exact ⟨q1, u, by rw [upd_ne hne]; exact q2, q3⟩
/-- an object that was new at the start may change -/
theorem Grow.put {p : Addr} {o : HO} (a : Grow P G H P1 G1 H1) (h : H p = none) : Grow P G H P1 G1 (upd H1 p o) where
  fz := a.fz
  iv := a.iv
  n := a.n
  g := a.g
  h := fun x u e n => by rw [upd_ne (ne_of_none e h)]; exact a.h x u e n
  dom := fun x u e => by
    obtain ⟨o', e'⟩ := a.dom x u e
    exact ⟨o', by rw [upd_ne (ne_of_none e h)]; exact e'⟩
  fresh := a.fresh
/-- a private new object is frozen -/
theorem Grow.frz {p : Addr} {o : HO} (a : Grow P G H P1 G1 H1) (h : H p = none) (hg : G1 p = none) : Grow P G H P1 (upd G1 p o) H1 where
  fz := a.fz
  iv := a.iv
  n := a.n
  g := fun x u e => by
    have e1 := a.g x u e
    rw [upd_ne (ne_of_none e1 hg)]; exact e1
  h := a.h
  dom := a.dom
  fresh := fun x u e => by
    obtain ⟨q1, q2, q3⟩ := a.fresh x u e
    exact ⟨q1, q2, by rw [upd_ne (ne_of_none e h)]; exact q3⟩
/-- a tuple of keys is frozen, whoever made it -/
theorem Grow.frzK {p : Addr} {vs : List V} (a : Grow P G H P1 G1 H1) (hp : H1 p = some (.tup vs)) (hk : vs.all isKV = true) (hi : P1.iv p = none) (hg : G1 p = none) : Grow P G H P1 (upd G1 p (.tup vs)) H1 where
  fz := a.fz
  iv := a.iv
  n := a.n
  g := fun x u e => by
    have e1 := a.g x u e
    rw [upd_ne (ne_of_none e1 hg)]; exact e1
  h := a.h
  dom := a.dom
  fresh := fun x u e => by
    obtain ⟨q1, q2, q3⟩ := a.fresh x u e
    refine ⟨q1, q2, ?_⟩
    by_cases hx : x = p
    · subst hx
      have n : P.iv x = none := by rw [← q1]; exact hi
      have := a.h x u e n
      rw [hp] at this
      cases this
      exact .inr ⟨hk, n, upd_same⟩
    · rw [upd_ne hx]; exact q3
theorem Good.frz {p : Addr} {o : HO} (g : Good κ P G H) (hg : G p = none) (hi : P.iv p = none) (hp : H p = some o) : Good κ P (upd G p o) H where
  fx := g.fx
  pg := fun a u e => by
    have e1 := g.pg a u e
    rw [upd_ne (ne_of_none e1 hg)]; exact e1
  gh := fun a u e => by
    by_cases hne : a = p
    · subst hne; rw [upd_same] at e; cases e; exact .inl hp
    · rw [upd_ne hne] at e; exact g.gh a u e
  gi := fun a t e => by
    obtain ⟨q1, u, q2, q3⟩ := g.gi a t e
    have hne : a ≠ p := fun z => by subst z; rw [hi] at e; cases e
    exact ⟨by rw [upd_ne hne]; exact q1, u, q2, q3⟩
/-- a dict is locked, and let again -/
theorem Good.lock {a : Addr} {u : HO} {od : Obj} (g : Good κ P G H) (hg : G a = some u) (hd : isDk u = true) : Good κ P G (upd H a (.frz od u)) where
  pg := g.pg
  fx := g.fx
  gh := fun b o e => by
    by_cases hb : b = a
    · subst hb
      rw [hg] at e; cases e
      exact .inr ⟨hd, od, upd_same⟩
    · exact (g.gh b o e).of (upd_ne hb)
  gi := fun b t e => by
    obtain ⟨q1, o, q2, q3⟩ := g.gi b t e
    have hb : b ≠ a := fun z => by subst z; rw [q1] at hg; cases hg
    exact ⟨q1, o, by rw [upd_ne hb]; exact q2, q3⟩
theorem Good.unlock {a : Addr} {u : HO} (g : Good κ P G H) (hg : G a = some u) : Good κ P G (upd H a u) where
  pg := g.pg
  fx := g.fx
  gh := fun b o e => by
    by_cases hb : b = a
    · subst hb
      rw [hg] at e; cases e
      exact .inl upd_same
    · exact (g.gh b o e).of (upd_ne hb)
  gi := fun b t e => by
    obtain ⟨q1, o, q2, q3⟩ := g.gi b t e
    have hb : b ≠ a := fun z => by subst z; rw [q1] at hg; cases hg
    exact ⟨q1, o, by rw [upd_ne hb]; exact q2, q3⟩
theorem Grow.unlock {a : Addr} {u : HO} {od : Obj} (h : H a = some u) (gr : Grow P G (upd H a (.frz od u)) P1 G1 H1) : Grow P G H P1 G1 (upd H1 a u) where
  fz := gr.fz
  iv := gr.iv
  n := gr.n
  g := gr.g
  h := fun b o e n => by
    by_cases hb : b = a
    · subst hb
      rw [h] at e; cases e; exact upd_same
    · rw [upd_ne hb]; exact gr.h b o (by rw [upd_ne hb]; exact e) n
  dom := fun b o e => by
    by_cases hb : b = a
    · subst hb; exact ⟨_, upd_same⟩
    · rw [upd_ne hb]; exact gr.dom b o (by rw [upd_ne hb]; exact e)
  fresh := fun b o e => by
    by_cases hb : b = a
    · subst hb
      obtain ⟨q1, q2, q3⟩ := gr.fresh b _ upd_same
      exact ⟨q1, .inl (q2.same rfl), .inl (q3.same rfl)⟩
    · exact gr.fresh b o (by rw [upd_ne hb]; exact e)
theorem reps_frz {v : List V} {d : List D} {iv : IV} {p : Addr} {o : HO} (hg : G p = none) (r : Reps κ G iv v d) : Reps κ (upd G p o) iv v d := r.mono (fun a u e => by rw [upd_ne (ne_of_none e hg)]; exact e) fun _ _ h => h
end
abbrev DEnv := List (Option D)
abbrev FE := DEnv → Nat → (D → Nat → Prop) → Prop
abbrev FA := DEnv → Nat → (List D → Nat → Prop) → Prop
abbrev FT := DEnv → Nat → (Bool → Nat → Prop) → Prop
structure EnvR (κ : Kit) (G : Hp) (iv : IV) (σ : L2.St) (env : DEnv) : Prop where
  len : env.length = σ.length
  get : ∀ (i : Nat) (d : D), env[i]? = some (some d) → ∃ v : V, σ[i]? = some (some v) ∧ Rep κ G iv v d
/-- what follows a value; a new list; arguments; a test -/
abbrev Lk (κ : Kit) (P : Wd) (G H : Hp) (Q : D → Nat → Prop) (R : VK) : Prop := ∀ v P' G' H' d, Grow P G H P' G' H' → Good κ P' G' H' → Rep κ G' P'.iv v d → Q d P'.n → R v H'
abbrev LkO (κ : Kit) (P : Wd) (G H : Hp) (Q : List D → Nat → Prop) (R : VK) : Prop := ∀ a P' G' H' vs xs, Grow P G H P' G' H' → Good κ P' G' H' → H a = none → G' a = none → P'.iv a = none → H' a = some (.lst vs) → vs.length ≤ sizeLine → Reps κ G' P'.iv vs xs → Q xs P'.n → R (.ref a) H'
abbrev LkA (κ : Kit) (P : Wd) (G H : Hp) (Q : List D → Nat → Prop) (R : List V → Hp → Prop) : Prop := ∀ vs P' G' H' ds, Grow P G H P' G' H' → Good κ P' G' H' → Reps κ G' P'.iv vs ds → Q ds P'.n → R vs H'
abbrev LkT (κ : Kit) (P : Wd) (G H : Hp) (Q : Bool → Nat → Prop) (R : Bool → Hp → Prop) : Prop := ∀ b P' G' H', Grow P G H P' G' H' → Good κ P' G' H' → Q b P'.n → R b H'
abbrev RdE (κ : Kit) (f : FE) (t : TE) : Prop := ∀ (P : Wd) (G H : Hp) (σ : L2.St) (env : DEnv) (Q : D → Nat → Prop) (R : VK), Good κ P G H → EnvR κ G P.iv σ env → f env P.n Q → Lk κ P G H Q R → t σ H R
abbrev RdO (κ : Kit) (f : FA) (t : TE) : Prop := ∀ (P : Wd) (G H : Hp) (σ : L2.St) (env : DEnv) (Q : List D → Nat → Prop) (R : VK), Good κ P G H → EnvR κ G P.iv σ env → f env P.n Q → LkO κ P G H Q R → t σ H R
abbrev RdA (κ : Kit) (f : FA) (t : TA) : Prop := ∀ (P : Wd) (G H : Hp) (σ : L2.St) (env : DEnv) (Q : List D → Nat → Prop) (R : List V → Hp → Prop), Good κ P G H → EnvR κ G P.iv σ env → f env P.n Q → LkA κ P G H Q R → t σ H R
abbrev RdT (κ : Kit) (f : FT) (t : TT) : Prop := ∀ (P : Wd) (G H : Hp) (σ : L2.St) (env : DEnv) (Q : Bool → Nat → Prop) (R : Bool → Hp → Prop), Good κ P G H → EnvR κ G P.iv σ env → f env P.n Q → LkT κ P G H Q R → t σ H R
/-- an expression reads as f; a new list, not yet frozen; arguments; a test -/
def DE (κ : Kit) (X : Cx) (e : Expr) (f : FE) : Prop := ∃ t, PE X e t ∧ RdE κ f t
def DO (κ : Kit) (X : Cx) (e : Expr) (f : FA) : Prop := ∃ t, PE X e t ∧ RdO κ f t
def DA (κ : Kit) (X : Cx) (es : List Expr) (f : FA) : Prop := ∃ t, PA X es t ∧ RdA κ f t
def DT (κ : Kit) (X : Cx) (e : Expr) (f : FT) : Prop := ∃ t, PT X e t ∧ RdT κ f t
section
variable {κ : Kit} {X : Cx} {a b c e : Expr} {es : List Expr} {fa fb fc f : FE} {pos : Pos}
theorem EnvR.grow {P P1 : Wd} {G G1 H H1 : Hp} {σ : L2.St} {env : DEnv} (ev : EnvR κ G P.iv σ env) (g : Grow P G H P1 G1 H1) : EnvR κ G1 P1.iv σ env :=
  ⟨ev.len, fun i d h => by obtain ⟨v, h1, h2⟩ := ev.get i d h; exact ⟨v, h1, g.rep h2⟩⟩
theorem EnvR.set {G : Hp} {iv : IV} {σ : L2.St} {env : DEnv} {i : Nat} {v : V} {d : D} (ev : EnvR κ G iv σ env) (r : Rep κ G iv v d) : EnvR κ G iv (σ.set i (some v)) (env.set i (some d)) :=
  ⟨by rw [List.length_set, List.length_set, ev.len], fun j u h => by
    by_cases hij : i = j
    · subst hij
      rw [List.getElem?_set] at h
      simp only [if_true] at h
      split at h
      · cases h
        exact ⟨v, by rw [List.getElem?_set]; simp only [if_true]; rw [if_pos (by rw [← ev.len]; assumption)], r⟩
      · cases h
    · rw [List.getElem?_set_ne hij] at h ⊢
      exact ev.get j u h⟩
theorem EnvR.setN {G : Hp} {iv : IV} {σ : L2.St} {env : DEnv} {i : Nat} (ev : EnvR κ G iv σ env) : EnvR κ G iv (σ.set i none) (env.set i none) :=
  ⟨by rw [List.length_set, List.length_set, ev.len], fun j u h => by
    by_cases hij : i = j
    · subst hij
      rw [List.getElem?_set] at h
      simp only [if_true] at h
      split at h <;> cases h
    · rw [List.getElem?_set_ne hij] at h ⊢
      exact ev.get j u h⟩
/-- a new list is frozen -/
@[simp] def fFrz (f : FA) : FE := fun env n Q => f env n fun xs m => Q (.lst xs) m
theorem DO.fr {fo : FA} (h : DO κ X e fo) : DE κ X e (fFrz fo) := by
  obtain ⟨t, p, q⟩ := h
  refine ⟨t, p, fun P G H σ env Q R g ev hf hR => q P G H σ env _ R g ev hf fun a P' G' H' vs xs gr g' ha hg hi hh hz r hq => ?_⟩
  exact hR (.ref a) P' (upd G' a (.lst vs)) H' (.lst xs) (gr.frz ha hg) (g'.frz hg hi hh) (.lst upd_same hz (reps_frz hg r)) hq
@[simp] def fVar (i : Nat) : FE := fun env n Q => ∃ d, env[i]? = some (some d) ∧ Q d n
theorem de_var {i : Nat} {x : Str} (hN : X.N[i]? = some x) (hv : Vis X.env.scope x) (hd : (x == ("__debug__" : Str)) = false := by decide) (hcd : (x == ("__classdict__" : Str)) = false := by decide) : DE κ X (.Name x pos) (fVar i) :=
  ⟨_, pe_var hN hv hd hcd, fun P G H σ env Q R g ev ⟨d, h1, h2⟩ hR => by
    obtain ⟨v, q1, q2⟩ := ev.get i d h1
    exact ⟨v, q1, hR v P G H d .refl g q2 h2⟩⟩
@[simp] def fC (d : D) : FE := fun _ n Q => Q d n
theorem de_int {i j} : DE κ X (.Constant (.int i) j pos) (fC (.int i)) := ⟨_, pe_int, fun P G H σ env Q R g ev h hR => hR _ P G H _ .refl g .int h⟩
theorem de_bl {i j} : DE κ X (.Constant (.bool i) j pos) (fC (.bl i)) := ⟨_, pe_bl, fun P G H σ env Q R g ev h hR => hR _ P G H _ .refl g .bl h⟩
theorem de_non {j} : DE κ X (.Constant .none j pos) (fC .non) := ⟨_, pe_non, fun P G H σ env Q R g ev h hR => hR _ P G H _ .refl g .non h⟩
theorem de_str {x : Str} {j} (s : List Nat) (hs : x = ⟨s.toArray⟩) (hl : OkS s) : DE κ X (.Constant (.str x) j pos) (fC (.str s)) :=
  ⟨_, pe_str, fun P G H σ env Q R g ev h hR => hR _ P G H _ .refl g (by rw [hs]; exact .str hl) h⟩
/-- two operands, an operation by values and its data -/
def LiftR (κ : Kit) (r : R2) (f : D → D → Nat → (D → Nat → Prop) → Prop) : Prop := ∀ (P : Wd) (G H : Hp) (x y : V) (dx dy : D) (Q : D → Nat → Prop) (R : VK), Good κ P G H → Rep κ G P.iv x dx → Rep κ G P.iv y dy → f dx dy P.n Q → Lk κ P G H Q R → r x y H R
def LiftRO (κ : Kit) (r : R2) (f : D → D → Nat → (List D → Nat → Prop) → Prop) : Prop := ∀ (P : Wd) (G H : Hp) (x y : V) (dx dy : D) (Q : List D → Nat → Prop) (R : VK), Good κ P G H → Rep κ G P.iv x dx → Rep κ G P.iv y dy → f dx dy P.n Q → LkO κ P G H Q R → r x y H R
theorem Grow.back {P P1 : Wd} {G H G1 H1 : Hp} {p : Addr} (gr : Grow P G H P1 G1 H1) (h : H1 p = none) : H p = none := by
  cases e : H p with
  | none => rfl
  | some o =>
    obtain ⟨o', e'⟩ := gr.dom p o e
    rw [e'] at h; cases h
theorem Lk.grow {P P1 : Wd} {G H G1 H1 : Hp} {Q : D → Nat → Prop} {R : VK} (gr : Grow P G H P1 G1 H1) (h : Lk κ P G H Q R) : Lk κ P1 G1 H1 Q R := fun v P' G' H' d gr' g' r q => h v P' G' H' d (gr.trans gr') g' r q
theorem LkO.grow {P P1 : Wd} {G H G1 H1 : Hp} {Q : List D → Nat → Prop} {R : VK} (gr : Grow P G H P1 G1 H1) (h : LkO κ P G H Q R) : LkO κ P1 G1 H1 Q R := fun a P' G' H' vs xs gr' g' ha hg hi hh hz r q => h a P' G' H' vs xs (gr.trans gr') g' (gr.back ha) hg hi hh hz r q
@[simp] def f2 (f : D → D → Nat → (D → Nat → Prop) → Prop) (fa fb : FE) : FE := fun env n Q => fa env n fun x n1 => fb env n1 fun y n2 => f x y n2 Q
@[simp] def f2O (f : D → D → Nat → (List D → Nat → Prop) → Prop) (fa fb : FE) : FA := fun env n Q => fa env n fun x n1 => fb env n1 fun y n2 => f x y n2 Q
theorem op_lift {r : R2} {f : D → D → Nat → (D → Nat → Prop) → Prop} {ta tb : TE} (hl : LiftR κ r f) (ha : RdE κ fa ta) (hb : RdE κ fb tb) : RdE κ (f2 f fa fb) (tOp r ta tb) := fun P G H σ env Q R g ev hf hR =>
  ha P G H σ env _ _ g ev hf fun x P1 G1 H1 dx gr1 g1 rx hf1 => hb P1 G1 H1 σ env _ _ g1 (ev.grow gr1) hf1 fun y P2 G2 H2 dy gr2 g2 ry hf2 =>
    hl P2 G2 H2 x y dx dy Q R g2 (gr2.rep rx) ry hf2 (hR.grow (gr1.trans gr2))
theorem op_liftO {r : R2} {f : D → D → Nat → (List D → Nat → Prop) → Prop} {ta tb : TE} (hl : LiftRO κ r f) (ha : RdE κ fa ta) (hb : RdE κ fb tb) : RdO κ (f2O f fa fb) (tOp r ta tb) := fun P G H σ env Q R g ev hf hR =>
  ha P G H σ env _ _ g ev hf fun x P1 G1 H1 dx gr1 g1 rx hf1 => hb P1 G1 H1 σ env _ _ g1 (ev.grow gr1) hf1 fun y P2 G2 H2 dy gr2 g2 ry hf2 =>
    hl P2 G2 H2 x y dx dy Q R g2 (gr2.rep rx) ry hf2 (hR.grow (gr1.trans gr2))
theorem de_op {op : Operator} {r : R2} {f : D → D → Nat → (D → Nat → Prop) → Prop} (hl : LiftR κ r f) (ho : OpR X (binaryOp op) r) (ha : DE κ X a fa) (hb : DE κ X b fb) : DE κ X (.BinOp a op b pos) (f2 f fa fb) := by
  obtain ⟨ta, pa, qa⟩ := ha
  obtain ⟨tb, pb, qb⟩ := hb
  exact ⟨_, pe_op ho pa pb, op_lift hl qa qb⟩
theorem de_cmp {op : CmpOp} {r : R2} {f : D → D → Nat → (D → Nat → Prop) → Prop} (hl : LiftR κ r f) (ho : OpR X (compareOp op) r) (ha : DE κ X a fa) (hb : DE κ X b fb) (hm : behindInMarks op b = false) : DE κ X (.Compare a [op] [b] pos) (f2 f fa fb) := by
  obtain ⟨ta, pa, qa⟩ := ha
  obtain ⟨tb, pb, qb⟩ := hb
  exact ⟨_, pe_cmpR ho pa pb hm, op_lift hl qa qb⟩
theorem do_op {op : Operator} {r : R2} {f : D → D → Nat → (List D → Nat → Prop) → Prop} (hl : LiftRO κ r f) (ho : OpR X (binaryOp op) r) (ha : DE κ X a fa) (hb : DE κ X b fb) : DO κ X (.BinOp a op b pos) (f2O f fa fb) := by
  obtain ⟨ta, pa, qa⟩ := ha
  obtain ⟨tb, pb, qb⟩ := hb
  exact ⟨_, pe_op ho pa pb, op_liftO hl qa qb⟩
end
end DL
namespace DL
open PySem PySem.Spec PyProof.Rows L2
section
variable {κ : Kit} {X : Cx} {a b c e : Expr} {es : List Expr} {fa fb fc f : FE} {far : FA} {pos : Pos}
@[simp] def aNil : FA := fun _ n Q => Q [] n
@[simp] def aCons (f : FE) (r : FA) : FA := fun env n Q => f env n fun x n1 => r env n1 fun xs n2 => Q (x :: xs) n2
theorem da_nil : DA κ X [] aNil := ⟨_, pa_nil, fun P G H σ env Q R g ev h hR => hR [] P G H [] .refl g .nil h⟩
theorem da_cons (ha : DE κ X e f) (hr : DA κ X es far) (hs : starEach (e :: es) X.env = (false, eval e X.env) :: starEach es X.env := by rfl) : DA κ X (e :: es) (aCons f far) := by
  obtain ⟨ta, pa, qa⟩ := ha
  obtain ⟨tb, pb, qb⟩ := hr
  refine ⟨_, pa_cons pa pb hs, fun P G H σ env Q R g ev hf hR => ?_⟩
  exact qa P G H σ env _ _ g ev hf fun x P1 G1 H1 dx gr1 g1 rx hf1 => qb P1 G1 H1 σ env _ _ g1 (ev.grow gr1) hf1 fun xs P2 G2 H2 ds gr2 g2 rs hq =>
    hR _ P2 G2 H2 _ (gr1.trans gr2) g2 (.cons (gr2.rep rx) rs) hq
@[simp] def fTup (fa : FA) : FE := fun env n Q => fa env n fun xs m => xs.length ≤ sizeLine ∧ Q (.tup xs) m
theorem de_tup {x1} (h : DA κ X es far) : DE κ X (.Tuple es x1 pos) (fTup far) := by
  obtain ⟨t, p, q⟩ := h
  refine ⟨_, pe_tup p, fun P G H σ env Q R g ev hf hR => q P G H σ env _ _ g ev hf fun vs P1 G1 H1 ds gr g1 r hq => ⟨by rw [r.length]; exact hq.1, fun a ha => ?_⟩⟩
  have hg := g1.gnone ha
  exact hR _ P1 (upd G1 a (.tup vs)) _ (.tup ds) ((gr.put (gr.back ha)).frz (gr.back ha) hg) ((g1.new ha).frz hg (g1.inone ha) upd_same) (.tup upd_same (by rw [r.length]; exact hq.1) (reps_frz hg r)) hq.2
@[simp] def oLst (fa : FA) : FA := fun env n Q => fa env n fun xs m => xs.length ≤ sizeLine ∧ Q xs m
theorem do_lst (h : DA κ X es far) : DO κ X (.List es pos) (oLst far) := by
  obtain ⟨t, p, q⟩ := h
  refine ⟨_, pe_lst p, fun P G H σ env Q R g ev hf hR => q P G H σ env _ _ g ev hf fun vs P1 G1 H1 ds gr g1 r hq => ⟨by rw [r.length]; exact hq.1, fun a ha => ?_⟩⟩
  exact hR a P1 G1 _ vs ds (gr.put (gr.back ha)) (g1.new ha) (gr.back ha) (g1.gnone ha) (g1.inone ha) upd_same (by rw [r.length]; exact hq.1) r hq.2
def LiftU (κ : Kit) (r : V → Hp → VK → Prop) (f : D → Nat → (D → Nat → Prop) → Prop) : Prop := ∀ (P : Wd) (G H : Hp) (x : V) (dx : D) (Q : D → Nat → Prop) (R : VK), Good κ P G H → Rep κ G P.iv x dx → f dx P.n Q → Lk κ P G H Q R → r x H R
def LiftC (κ : Kit) (r : List V → Hp → VK → Prop) (f : List D → Nat → (D → Nat → Prop) → Prop) : Prop := ∀ (P : Wd) (G H : Hp) (xs : List V) (ds : List D) (Q : D → Nat → Prop) (R : VK), Good κ P G H → Reps κ G P.iv xs ds → f ds P.n Q → Lk κ P G H Q R → r xs H R
def LiftCO (κ : Kit) (r : List V → Hp → VK → Prop) (f : List D → Nat → (List D → Nat → Prop) → Prop) : Prop := ∀ (P : Wd) (G H : Hp) (xs : List V) (ds : List D) (Q : List D → Nat → Prop) (R : VK), Good κ P G H → Reps κ G P.iv xs ds → f ds P.n Q → LkO κ P G H Q R → r xs H R
@[simp] def f1 (f : D → Nat → (D → Nat → Prop) → Prop) (fa : FE) : FE := fun env n Q => fa env n fun x n1 => f x n1 Q
@[simp] def fCl (f : List D → Nat → (D → Nat → Prop) → Prop) (fa : FA) : FE := fun env n Q => fa env n fun x n1 => f x n1 Q
@[simp] def oCl (f : List D → Nat → (List D → Nat → Prop) → Prop) (fa : FA) : FA := fun env n Q => fa env n fun x n1 => f x n1 Q
theorem de_un {op : UnaryOp} {r : V → Hp → VK → Prop} {g : D → Nat → (D → Nat → Prop) → Prop} (hl : LiftU κ r g) (ho : UnR X (unaryOp op) r) (ha : DE κ X a fa) : DE κ X (.UnaryOp op a pos) (f1 g fa) := by
  obtain ⟨t, p, q⟩ := ha
  exact ⟨_, pe_un ho p, fun P G H σ env Q R g ev hf hR => q P G H σ env _ _ g ev hf fun v P1 G1 H1 d gr g1 r hq => hl P1 G1 H1 v d Q R g1 r hq (hR.grow gr)⟩
theorem de_callB {id : String} {x : Str} {p : Pos} {r : List V → Hp → VK → Prop} {g : List D → Nat → (D → Nat → Prop) → Prop} (hl : LiftC κ r g) (hc : CallR X (.builtin id) r) (hg : Gl X x) (hm : X.mg x = none) (hv : bootBuiltins x = some (.builtin id)) (ha : DA κ X (e :: es) far)
    (hn : x ≠ "__name__" := by decide) (hdb : (x == ("__debug__" : Str)) = false := by decide) (he : starEach (e :: es) X.env = (false, eval e X.env) :: starEach es X.env := by rfl) (hpl : (backTo pos (starEach es X.env)).any (·.1) = false := by rfl) : DE κ X (.Call (.Name x p) (e :: es) [] pos) (fCl g far) := by
  obtain ⟨t, pa, q⟩ := ha
  exact ⟨_, pe_callB hc hg hm hv pa hn hdb he hpl, fun P G H σ env Q R g ev hf hR => q P G H σ env _ _ g ev hf fun v P1 G1 H1 d gr g1 r hq => hl P1 G1 H1 v d Q R g1 r hq (hR.grow gr)⟩
theorem do_callB {id : String} {x : Str} {p : Pos} {r : List V → Hp → VK → Prop} {g : List D → Nat → (List D → Nat → Prop) → Prop} (hl : LiftCO κ r g) (hc : CallR X (.builtin id) r) (hg : Gl X x) (hm : X.mg x = none) (hv : bootBuiltins x = some (.builtin id)) (ha : DA κ X (e :: es) far)
    (hn : x ≠ "__name__" := by decide) (hdb : (x == ("__debug__" : Str)) = false := by decide) (he : starEach (e :: es) X.env = (false, eval e X.env) :: starEach es X.env := by rfl) (hpl : (backTo pos (starEach es X.env)).any (·.1) = false := by rfl) : DO κ X (.Call (.Name x p) (e :: es) [] pos) (oCl g far) := by
  obtain ⟨t, pa, q⟩ := ha
  exact ⟨_, pe_callB hc hg hm hv pa hn hdb he hpl, fun P G H σ env Q R g ev hf hR => q P G H σ env _ _ g ev hf fun v P1 G1 H1 d gr g1 r hq => hl P1 G1 H1 v d Q R g1 r hq (hR.grow gr)⟩
theorem de_callTy {T : String} {x : Str} {p : Pos} {r : List V → Hp → VK → Prop} {g : List D → Nat → (D → Nat → Prop) → Prop} (hl : LiftC κ r g) (hc : CallR X (.type T) r) (hg : Gl X x) (hm : X.mg x = none) (hv : bootBuiltins x = some (.type T)) (ha : DA κ X (e :: es) far)
    (hn : x ≠ "__name__" := by decide) (hdb : (x == ("__debug__" : Str)) = false := by decide) (he : starEach (e :: es) X.env = (false, eval e X.env) :: starEach es X.env := by rfl) (hpl : (backTo pos (starEach es X.env)).any (·.1) = false := by rfl) : DE κ X (.Call (.Name x p) (e :: es) [] pos) (fCl g far) := by
  obtain ⟨t, pa, q⟩ := ha
  exact ⟨_, pe_callTy hc hg hm hv pa hn hdb he hpl, fun P G H σ env Q R g ev hf hR => q P G H σ env _ _ g ev hf fun v P1 G1 H1 d gr g1 r hq => hl P1 G1 H1 v d Q R g1 r hq (hR.grow gr)⟩
theorem do_callTy {T : String} {x : Str} {p : Pos} {r : List V → Hp → VK → Prop} {g : List D → Nat → (List D → Nat → Prop) → Prop} (hl : LiftCO κ r g) (hc : CallR X (.type T) r) (hg : Gl X x) (hm : X.mg x = none) (hv : bootBuiltins x = some (.type T)) (ha : DA κ X (e :: es) far)
    (hn : x ≠ "__name__" := by decide) (hdb : (x == ("__debug__" : Str)) = false := by decide) (he : starEach (e :: es) X.env = (false, eval e X.env) :: starEach es X.env := by rfl) (hpl : (backTo pos (starEach es X.env)).any (·.1) = false := by rfl) : DO κ X (.Call (.Name x p) (e :: es) [] pos) (oCl g far) := by
  obtain ⟨t, pa, q⟩ := ha
  exact ⟨_, pe_callTy hc hg hm hv pa hn hdb he hpl, fun P G H σ env Q R g ev hf hR => q P G H σ env _ _ g ev hf fun v P1 G1 H1 d gr g1 r hq => hl P1 G1 H1 v d Q R g1 r hq (hR.grow gr)⟩
theorem OpR.or {op : Value → Value → Sem Value} {r r' : R2} (h : OpR X op r) (h' : OpR X op r') : OpR X op (fun x y H Q => r x y H Q ∨ r' x y H Q) := by
  intro pins s σ H x y v u Q I rx ry q
  rcases q with q | q
  · exact h pins s σ H x y v u Q I rx ry q
  · exact h' pins s σ H x y v u Q I rx ry q
theorem CallR.or {f : Value} {r r' : List V → Hp → VK → Prop} (h : CallR X f r) (h' : CallR X f r') : CallR X f (fun xs H Q => r xs H Q ∨ r' xs H Q) := by
  intro pins s σ H xs us Q I rx q
  rcases q with q | q
  · exact h pins s σ H xs us Q I rx q
  · exact h' pins s σ H xs us Q I rx q
/-- a comparison by values and its data -/
def CR (κ : Kit) (X : Cx) (op : CmpOp) (φ : D → D → Nat → (D → Nat → Prop) → Prop) : Prop := ∃ r, LiftR κ r φ ∧ OpR X (compareOp op) r
theorem CR.de {op : CmpOp} {φ : D → D → Nat → (D → Nat → Prop) → Prop} (c : CR κ X op φ) (ha : DE κ X a fa) (hb : DE κ X b fb) (hm : behindInMarks op b = false) : DE κ X (.Compare a [op] [b] pos) (f2 φ fa fb) := by
  obtain ⟨r, h1, h2⟩ := c
  exact de_cmp h1 h2 ha hb hm
/-- it has to be True or False -/
def gB (d : D) (m : Nat) (Q : Bool → Nat → Prop) : Prop := ∃ b, d = .bl b ∧ Q b m
@[simp] theorem gB_bl {b : Bool} {m : Nat} {Q : Bool → Nat → Prop} : gB (.bl b) m Q = Q b m := by
  refine propext ⟨?_, fun h => ⟨b, rfl, h⟩⟩
  rintro ⟨c, e, h⟩
  cases e
  exact h
@[simp] def tVal (f : FE) : FT := fun env n Q => f env n fun d m => gB d m Q
theorem rep_bl' {G : Hp} {iv : IV} {v : V} {k : Bool} (r : Rep κ G iv v (.bl k)) : v = .bl k := by cases r; rfl
theorem CR.dt {op : CmpOp} {φ : D → D → Nat → (D → Nat → Prop) → Prop} (c : CR κ X op φ) (ha : DE κ X a fa) (hb : DE κ X b fb) (hm : behindInMarks op b = false) : DT κ X (.Compare a [op] [b] pos) (tVal (f2 φ fa fb)) := by
  obtain ⟨r, h1, h2⟩ := c
  obtain ⟨ta, pa, qa⟩ := ha
  obtain ⟨tb, pb, qb⟩ := hb
  refine ⟨_, pt_cmpR h2 pa pb hm, fun P G H σ env Q R g ev hf hR => op_lift h1 qa qb P G H σ env _ _ g ev hf fun v P' G' H' d gr g' rv hq => ?_⟩
  obtain ⟨b, e, hq⟩ := hq
  subst e
  exact ⟨b, rep_bl' rv, hR b P' G' H' gr g' hq⟩
theorem str_app (s t : List Nat) : ((⟨s.toArray⟩ : Str) ++ ⟨t.toArray⟩) = ⟨(s ++ t).toArray⟩ := by
  show (⟨s.toArray ++ t.toArray⟩ : Str) = _
  simp
theorem str_len (s : List Nat) : (⟨s.toArray⟩ : Str).length = s.length := by show s.toArray.size = s.length; simp
/-- a + b: ints, texts -/
def gAdd (x y : D) (n : Nat) (Q : D → Nat → Prop) : Prop := match x, y with
  | .int i, .int j => Q (.int (i + j)) n
  | .str s, .str t => s.length + t.length ≤ sizeLine ∧ Q (.str (s ++ t)) n
  | _, _ => False
def gSub (x y : D) (n : Nat) (Q : D → Nat → Prop) : Prop := match x, y with
  | .int i, .int j => Q (.int (i - j)) n
  | _, _ => False
theorem de_sub (ha : DE κ X a fa) (hb : DE κ X b fb) : DE κ X (.BinOp a .Sub b pos) (f2 gSub fa fb) := by
  refine de_op ?_ op_sub ha hb
  intro P G H x y dx dy Q R g rx ry hf hR
  cases rx <;> cases ry <;> try (exact False.elim hf)
  exact ⟨_, _, rfl, rfl, hR _ P G H _ .refl g .int hf⟩
/-- a + b of lists: a new list -/
def oAdd (x y : D) (n : Nat) (Q : List D → Nat → Prop) : Prop := match x, y with
  | .lst xs, .lst ys => xs.length + ys.length ≤ sizeLine ∧ Q (xs ++ ys) n
  | _, _ => False
theorem do_add (ha : DE κ X a fa) (hb : DE κ X b fb) : DO κ X (.BinOp a .Add b pos) (f2O oAdd fa fb) := by
  refine do_op ?_ op_cat ha hb
  intro P G H x y dx dy Q R g rx ry hf hR
  cases rx <;> cases ry <;> try (exact False.elim hf)
  rename_i a1 vs1 xs1 h1 z1 r1 a2 vs2 xs2 h2 z2 r2
  have hz : vs1.length + vs2.length ≤ sizeLine := by rw [r1.length, r2.length]; exact hf.1
  exact ⟨_, _, _, _, rfl, rfl, g.gx h1 rfl, g.gx h2 rfl, hz, fun p hp => hR p P G _ _ _ (Grow.new hp) (g.new hp) hp (g.gnone hp) (g.inone hp) upd_same (by rw [List.length_append]; exact hz) (r1.append r2) hf.2⟩
end
end DL
namespace DL
open PySem PySem.Spec PyProof.Rows L2
/-- when a product is made -/
def MulOk (i j : Int) : Prop := (i.natAbs < 2 ^ 64 ∨ j.natAbs < 2 ^ 64) ∨ (i.natAbs.log2 + j.natAbs.log2 < 1000000)
theorem MulOk.left {i j : Int} (h : i.natAbs < 2 ^ 64) : MulOk i j := .inl (.inl h)
theorem MulOk.right {i j : Int} (h : j.natAbs < 2 ^ 64) : MulOk i j := .inl (.inr h)
theorem MulOk.ok {i j : Int} (h : MulOk i j) : IntMulOk i j := by
  rcases h with (h | h) | h
  · exact (show CMul i j from .inl (by omega)).ok
  · exact (show CMul i j from .inr (by omega)).ok
  · exact CMulW.ok h
def DivOk (j : Int) : Prop := 0 < j ∧ j.natAbs.log2 < 9000
section
variable {κ : Kit} {X : Cx} {a b c e : Expr} {es : List Expr} {fa fb fc f : FE} {far : FA} {pos : Pos}
theorem op_mulA : OpR X (binaryOp .Mult) (rI MulOk fun i j => .int (i * j)) := opI fun _ _ _ _ _ _ _ hc q => mul_int q hc.ok
theorem foldl_rep (s : List Nat) (n : Nat) : ∀ a : Array Nat, (List.replicate n s.toArray).foldl (· ++ ·) a = (a.toList ++ (List.replicate n s).flatten).toArray := by
  induction n with
  | zero => intro a; simp
  | succ n ih =>
    intro a
    rw [List.replicate_succ, List.foldl_cons, ih, List.replicate_succ, List.flatten_cons]
    simp
theorem op_mulS : OpR X (binaryOp .Mult) (fun x y H Q => ∃ s k, x = .str s ∧ y = .int k ∧ k < 2 ^ 62 ∧ -(2 ^ 62) < k ∧ s.length * k.toNat ≤ sizeLine ∧ Q (.str ⟨(List.replicate k.toNat s.cps.toList).flatten.toArray⟩) H) := by
  intro pins s σ H x y v u Q I rx ry h
  obtain ⟨z, k, rfl, rfl, h1, h2, h3, q⟩ := h
  obtain ⟨t, rfl⟩ := rx
  obtain ⟨t', rfl⟩ := ry
  have hl : sizeLine = 16777216 := sizeLine_eq
  refine P.mul_str ?_ ?_ ?_ ?_
  · have e1 : ¬ k < -(2 ^ 63 : Int) := by omega
    have e2 : ¬ k ≥ 2 ^ 63 := by omega
    rw [decide_eq_false e1, decide_eq_false e2]; rfl
  · intro e1 _ e2
    have e3 : (z.length : Int) * k ≤ 16777216 := by
      have h4 : z.length * k.toNat ≤ 16777216 := Nat.le_trans h3 (Nat.le_of_eq hl)
      have h5 : ((z.length * k.toNat : Nat) : Int) ≤ ((16777216 : Nat) : Int) := Int.ofNat_le.mpr h4
      rw [Int.natCast_mul, Int.toNat_of_nonneg (by omega)] at h5
      exact h5
    have e4 : ((2 ^ 63 - 1) / k + 1) * k ≤ (z.length : Int) * k := Int.mul_le_mul_of_nonneg_right (by omega) (by omega)
    have e5 : (2 ^ 63 - 1 : Int) < ((2 ^ 63 - 1) / k + 1) * k := Int.lt_ediv_add_one_mul_self _ (by omega)
    omega
  · intro _ _
    unfold Builtin.Str.tooLong
    simp only [decide_eq_false_iff_not, Nat.not_lt, gt_iff_lt]
    exact h3
  · have key : ∀ s' : Shared, Inv X pins σ H s' → ∀ t : Tok, EP X pins σ Q (.str ⟨(List.replicate k.toNat z.cps.toList).flatten.toArray⟩ t) s' := fun s' I' t => ⟨V.str ⟨(List.replicate k.toNat z.cps.toList).flatten.toArray⟩, H, I', ⟨_, rfl⟩, q⟩
    by_cases hk : k < 1
    · rw [if_pos hk]
      have e0 : k.toNat = 0 := by omega
      have e1 : (⟨(List.replicate k.toNat z.cps.toList).flatten.toArray⟩ : Str) = Str.empty := by rw [e0]; rfl
      exact ⟨by decide, by have := key _ (I.tok (s.toks + 1)) s.toks; rw [e1] at this; exact this⟩
    · rw [if_neg hk]
      by_cases hc : (k == 1 || z.length == 0) = true
      · rw [if_pos hc]
        have e1 : (⟨(List.replicate k.toNat z.cps.toList).flatten.toArray⟩ : Str) = z := by
          rcases Bool.or_eq_true _ _ ▸ hc with c | c
          · have : k = 1 := by simpa using c
            subst this
            simp
          · have c' : z.cps.size = 0 := by simpa [Str.length] using c
            have : z.cps = #[] := Array.eq_empty_of_size_eq_zero c'
            cases z with
            | mk cps => simp only at this; subst this; simp
        show EP X pins σ Q (.str z t) s
        have := key s I t
        rw [e1] at this; exact this
      · rw [if_neg hc]
        have e2 : (List.replicate k.toNat z.cps).foldl (· ++ ·) #[] = (List.replicate k.toNat z.cps.toList).flatten.toArray := by
          have := foldl_rep z.cps.toList k.toNat #[]
          simpa using this
        rw [e2]
        refine ⟨?_, key _ (I.tok (s.toks + 1)) s.toks⟩
        show (List.replicate k.toNat z.cps.toList).flatten.toArray.size ≤ sizeLine
        rw [List.size_toArray, List.length_flatten, List.map_replicate, List.sum_replicate_nat, Array.length_toList, Nat.mul_comm]
        exact h3
theorem OkS.rep {s : List Nat} (h : OkS s) {k : Nat} (z : s.length * k ≤ sizeLine) : OkS (List.replicate k s).flatten := by
  refine ⟨?_, fun c hc => ?_⟩
  · rw [List.length_flatten, List.map_replicate, List.sum_replicate_nat, Nat.mul_comm]; exact z
  · obtain ⟨l, hl, hc⟩ := List.mem_flatten.mp hc
    rw [List.eq_of_mem_replicate hl] at hc
    exact h.2 c hc
/-- a * b: ints; a text so many times -/
def gMul (x y : D) (n : Nat) (Q : D → Nat → Prop) : Prop := match x, y with
  | .int i, .int j => MulOk i j ∧ Q (.int (i * j)) n
  | .str s, .int k => (k < 2 ^ 62 ∧ -(2 ^ 62) < k ∧ s.length * k.toNat ≤ sizeLine) ∧ Q (.str (List.replicate k.toNat s).flatten) n
  | _, _ => False
theorem de_mul (ha : DE κ X a fa) (hb : DE κ X b fb) : DE κ X (.BinOp a .Mult b pos) (f2 gMul fa fb) := by
  refine de_op (r := fun x y H Q => (rI MulOk fun i j => .int (i * j)) x y H Q ∨ (∃ s k, x = .str s ∧ y = .int k ∧ k < 2 ^ 62 ∧ -(2 ^ 62) < k ∧ s.length * k.toNat ≤ sizeLine ∧ Q (.str ⟨(List.replicate k.toNat s.cps.toList).flatten.toArray⟩) H)) ?_ (OpR.or op_mulA op_mulS) ha hb
  intro P G H x y dx dy Q R g rx ry hf hR
  cases rx <;> cases ry <;> try (exact False.elim hf)
  · exact .inl ⟨_, _, rfl, rfl, hf.1, hR _ P G H _ .refl g .int hf.2⟩
  · rename_i s hs k
    refine .inr ⟨_, _, rfl, rfl, hf.1.1, hf.1.2.1, by rw [str_len]; exact hf.1.2.2, ?_⟩
    have e : (⟨s.toArray⟩ : Str).cps.toList = s := by simp
    rw [e]
    exact hR _ P G H _ .refl g (.str (hs.rep hf.1.2.2)) hf.2
def gDiv (x y : D) (n : Nat) (Q : D → Nat → Prop) : Prop := match x, y with
  | .int i, .int j => DivOk j ∧ Q (.int (i / j)) n
  | _, _ => False
theorem de_div (ha : DE κ X a fa) (hb : DE κ X b fb) : DE κ X (.BinOp a .FloorDiv b pos) (f2 gDiv fa fb) := by
  refine de_op ?_ op_fdivW ha hb
  intro P G H x y dx dy Q R g rx ry hf hR
  cases rx <;> cases ry <;> try (exact False.elim hf)
  exact ⟨_, _, rfl, rfl, hf.1, hR _ P G H _ .refl g .int hf.2⟩
def gMod (x y : D) (n : Nat) (Q : D → Nat → Prop) : Prop := match x, y with
  | .int i, .int j => 0 < j ∧ Q (.int (i % j)) n
  | _, _ => False
theorem de_mod (ha : DE κ X a fa) (hb : DE κ X b fb) : DE κ X (.BinOp a .Mod b pos) (f2 gMod fa fb) := by
  refine de_op ?_ op_mod ha hb
  intro P G H x y dx dy Q R g rx ry hf hR
  cases rx <;> cases ry <;> try (exact False.elim hf)
  exact ⟨_, _, rfl, rfl, hf.1, hR _ P G H _ .refl g .int hf.2⟩
def CPowW (i j : Int) : Prop := 0 ≤ j ∧ (Builtin.Int.intBits i : Int) * j ≤ 134217728
theorem op_powW : OpR X (binaryOp .Pow) (rI CPowW fun i j => .int (i ^ j.toNat)) := opI fun _ _ _ _ _ _ _ hc q => pow_int hc.1 (by have := hc.2; omega) q
def gPow (x y : D) (n : Nat) (Q : D → Nat → Prop) : Prop := match x, y with
  | .int i, .int j => CPowW i j ∧ Q (.int (i ^ j.toNat)) n
  | _, _ => False
theorem de_pow (ha : DE κ X a fa) (hb : DE κ X b fb) : DE κ X (.BinOp a .Pow b pos) (f2 gPow fa fb) := by
  refine de_op ?_ op_powW ha hb
  intro P G H x y dx dy Q R g rx ry hf hR
  cases rx <;> cases ry <;> try (exact False.elim hf)
  exact ⟨_, _, rfl, rfl, hf.1, hR _ P G H _ .refl g .int hf.2⟩
def gNeg (x : D) (n : Nat) (Q : D → Nat → Prop) : Prop := match x with
  | .int i => Q (.int (-i)) n
  | _ => False
theorem de_neg (ha : DE κ X a fa) : DE κ X (.UnaryOp .USub a pos) (f1 gNeg fa) := by
  refine de_un ?_ un_neg ha
  intro P G H x dx Q R g rx hf hR
  cases rx <;> try (exact False.elim hf)
  exact ⟨_, rfl, hR _ P G H _ .refl g .int hf⟩
mutual
def toPy : D → PyData
  | .non => .none
  | .bl b => .bool b
  | .int i => .int i
  | .str s => .str ⟨s.toArray⟩
  | .lst xs => .list (toPys xs)
  | .tup xs => .tuple (toPys xs)
  | _ => .none
def toPys : List D → List PyData
  | [] => []
  | x :: xs => toPy x :: toPys xs
/-- plain data of depth at most k -/
@[simp] def plain : Nat → D → Bool
  | _, .non => true
  | _, .bl _ => true
  | _, .int _ => true
  | _, .str _ => true
  | k + 1, .lst xs => plains k xs
  | k + 1, .tup xs => plains k xs
  | _, _ => false
@[simp] def plains : Nat → List D → Bool
  | _, [] => true
  | k, x :: xs => plain k x && plains k xs
end
mutual
def eqD : D → D → Bool
  | .non, .non => true
  | .bl a, .bl b => a == b
  | .bl a, .int b => (if a then 1 else 0) == b
  | .int a, .bl b => a == (if b then 1 else 0)
  | .int a, .int b => a == b
  | .str a, .str b => a == b
  | .lst a, .lst b => eqDs a b
  | .tup a, .tup b => eqDs a b
  | _, _ => false
def eqDs : List D → List D → Bool
  | [], [] => true
  | x :: xs, y :: ys => eqD x y && eqDs xs ys
  | _, _ => false
end
@[simp] theorem eqD_non_non   : eqD D.non D.non = true := by simp only [eqD]
@[simp] theorem eqD_non_bl  (b : Bool) : eqD D.non (D.bl b) = false := by simp only [eqD]
@[simp] theorem eqD_non_int  (b : Int) : eqD D.non (D.int b) = false := by simp only [eqD]
@[simp] theorem eqD_non_str  (b : List Nat) : eqD D.non (D.str b) = false := by simp only [eqD]
@[simp] theorem eqD_non_lst  (b : List D) : eqD D.non (D.lst b) = false := by simp only [eqD]
@[simp] theorem eqD_non_tup  (b : List D) : eqD D.non (D.tup b) = false := by simp only [eqD]
@[simp] theorem eqD_bl_non (a : Bool)  : eqD (D.bl a) D.non = false := by simp only [eqD]
@[simp] theorem eqD_bl_bl (a : Bool) (b : Bool) : eqD (D.bl a) (D.bl b) = (a == b) := by simp only [eqD]
@[simp] theorem eqD_bl_int (a : Bool) (b : Int) : eqD (D.bl a) (D.int b) = ((if a then 1 else 0) == b) := by simp only [eqD]
@[simp] theorem eqD_bl_str (a : Bool) (b : List Nat) : eqD (D.bl a) (D.str b) = false := by simp only [eqD]
@[simp] theorem eqD_bl_lst (a : Bool) (b : List D) : eqD (D.bl a) (D.lst b) = false := by simp only [eqD]
@[simp] theorem eqD_bl_tup (a : Bool) (b : List D) : eqD (D.bl a) (D.tup b) = false := by simp only [eqD]
@[simp] theorem eqD_int_non (a : Int)  : eqD (D.int a) D.non = false := by simp only [eqD]
@[simp] theorem eqD_int_bl (a : Int) (b : Bool) : eqD (D.int a) (D.bl b) = (a == (if b then 1 else 0)) := by simp only [eqD]
@[simp] theorem eqD_int_int (a : Int) (b : Int) : eqD (D.int a) (D.int b) = (a == b) := by simp only [eqD]
@[simp] theorem eqD_int_str (a : Int) (b : List Nat) : eqD (D.int a) (D.str b) = false := by simp only [eqD]
@[simp] theorem eqD_int_lst (a : Int) (b : List D) : eqD (D.int a) (D.lst b) = false := by simp only [eqD]
@[simp] theorem eqD_int_tup (a : Int) (b : List D) : eqD (D.int a) (D.tup b) = false := by simp only [eqD]
@[simp] theorem eqD_str_non (a : List Nat)  : eqD (D.str a) D.non = false := by simp only [eqD]
@[simp] theorem eqD_str_bl (a : List Nat) (b : Bool) : eqD (D.str a) (D.bl b) = false := by simp only [eqD]
@[simp] theorem eqD_str_int (a : List Nat) (b : Int) : eqD (D.str a) (D.int b) = false := by simp only [eqD]
@[simp] theorem eqD_str_str (a : List Nat) (b : List Nat) : eqD (D.str a) (D.str b) = (a == b) := by simp only [eqD]
@[simp] theorem eqD_str_lst (a : List Nat) (b : List D) : eqD (D.str a) (D.lst b) = false := by simp only [eqD]
@[simp] theorem eqD_str_tup (a : List Nat) (b : List D) : eqD (D.str a) (D.tup b) = false := by simp only [eqD]
@[simp] theorem eqD_lst_non (a : List D)  : eqD (D.lst a) D.non = false := by simp only [eqD]
@[simp] theorem eqD_lst_bl (a : List D) (b : Bool) : eqD (D.lst a) (D.bl b) = false := by simp only [eqD]
@[simp] theorem eqD_lst_int (a : List D) (b : Int) : eqD (D.lst a) (D.int b) = false := by simp only [eqD]
@[simp] theorem eqD_lst_str (a : List D) (b : List Nat) : eqD (D.lst a) (D.str b) = false := by simp only [eqD]
@[simp] theorem eqD_lst_lst (a : List D) (b : List D) : eqD (D.lst a) (D.lst b) = eqDs a b := by simp only [eqD]
@[simp] theorem eqD_lst_tup (a : List D) (b : List D) : eqD (D.lst a) (D.tup b) = false := by simp only [eqD]
@[simp] theorem eqD_tup_non (a : List D)  : eqD (D.tup a) D.non = false := by simp only [eqD]
@[simp] theorem eqD_tup_bl (a : List D) (b : Bool) : eqD (D.tup a) (D.bl b) = false := by simp only [eqD]
@[simp] theorem eqD_tup_int (a : List D) (b : Int) : eqD (D.tup a) (D.int b) = false := by simp only [eqD]
@[simp] theorem eqD_tup_str (a : List D) (b : List Nat) : eqD (D.tup a) (D.str b) = false := by simp only [eqD]
@[simp] theorem eqD_tup_lst (a : List D) (b : List D) : eqD (D.tup a) (D.lst b) = false := by simp only [eqD]
@[simp] theorem eqD_tup_tup (a : List D) (b : List D) : eqD (D.tup a) (D.tup b) = eqDs a b := by simp only [eqD]
@[simp] theorem eqDs_nil : eqDs [] [] = true := by simp only [eqDs]
@[simp] theorem eqDs_cons (x y : D) (xs ys : List D) : eqDs (x :: xs) (y :: ys) = (eqD x y && eqDs xs ys) := by simp only [eqDs]
@[simp] theorem eqDs_nil_cons (y : D) (ys : List D) : eqDs [] (y :: ys) = false := by simp only [eqDs]
@[simp] theorem eqDs_cons_nil (y : D) (ys : List D) : eqDs (y :: ys) [] = false := by simp only [eqDs]
theorem str_beq (a b : List Nat) : ((⟨a.toArray⟩ : Str) == ⟨b.toArray⟩) = (a == b) := by
  rw [Bool.eq_iff_iff, beq_iff_eq, beq_iff_eq]
  exact ⟨fun e => by injection e with e; simpa using e, fun e => by rw [e]⟩
mutual
theorem eqv_toPy : ∀ (k l : Nat) (x y : D), plain k x = true → plain l y = true → PyData.eqv (toPy x) (toPy y) = eqD x y
  | k, l, .non, y, hx, hy => by cases y <;> simp [toPy, PyData.eqv, eqD] <;> cases l <;> simp [plain] at hy
  | k, l, .bl _, y, hx, hy => by cases y <;> simp [toPy, PyData.eqv, eqD]
  | k, l, .int _, y, hx, hy => by cases y <;> simp [toPy, PyData.eqv, eqD]
  | k, l, .str _, y, hx, hy => by cases y <;> simp [toPy, PyData.eqv, eqD, str_beq]
  | 0, _, .lst _, _, hx, _ => by simp [plain] at hx
  | 0, _, .tup _, _, hx, _ => by simp [plain] at hx
  | k + 1, l, .lst xs, y, hx, hy => by
    cases y with
    | lst ys =>
      cases l with
      | zero => simp [plain] at hy
      | succ l =>
        simp only [plain] at hx hy
        simp only [toPy, PyData.eqv, eqD]
        exact eqvAll_toPy k l xs ys hx hy
    | _ => simp [toPy, PyData.eqv, eqD]
  | k + 1, l, .tup xs, y, hx, hy => by
    cases y with
    | tup ys =>
      cases l with
      | zero => simp [plain] at hy
      | succ l =>
        simp only [plain] at hx hy
        simp only [toPy, PyData.eqv, eqD]
        exact eqvAll_toPy k l xs ys hx hy
    | _ => simp [toPy, PyData.eqv, eqD]
  | k, _, .dct _ _, _, hx, _ => by cases k <;> simp [plain] at hx
  | k, _, .dcu _ _, _, hx, _ => by cases k <;> simp [plain] at hx
  | k, _, .obj _ _, _, hx, _ => by cases k <;> simp [plain] at hx
  | k, _, .box _ _, _, hx, _ => by cases k <;> simp [plain] at hx
  | k, _, .scr _, _, hx, _ => by cases k <;> simp [plain] at hx
theorem eqvAll_toPy : ∀ (k l : Nat) (x y : List D), plains k x = true → plains l y = true → PyData.eqvAll (toPys x) (toPys y) = eqDs x y
  | _, _, [], [], _, _ => by simp [toPys, PyData.eqvAll, eqDs]
  | _, _, [], _ :: _, _, _ => by simp [toPys, PyData.eqvAll, eqDs]
  | _, _, _ :: _, [], _, _ => by simp [toPys, PyData.eqvAll, eqDs]
  | k, l, x :: xs, y :: ys, hx, hy => by
    rw [plains, Bool.and_eq_true] at hx hy
    simp only [toPys, PyData.eqvAll, eqDs, eqv_toPy k l x y hx.1 hy.1, eqvAll_toPy k l xs ys hx.2 hy.2]
end
section
variable {K : PySem.W.Frag} {G : Hp} {iv : IV}
mutual
theorem Rep.dp : ∀ (k : Nat) {v : V} {d : D}, Rep κ G iv v d → plain k d = true → Dp K G v (toPy d) ∧ (toPy d).canLay0 = true ∧ (toPy d).depth ≤ k
  | _, _, _, .non, _ => ⟨.non, rfl, Nat.zero_le _⟩
  | _, _, _, .bl, _ => ⟨.bl _, rfl, Nat.zero_le _⟩
  | _, _, _, .int, _ => ⟨.int _, rfl, Nat.zero_le _⟩
  | _, _, _, .str h, _ => ⟨.str _, by
      show PyData.strOk _ = true
      unfold PyData.strOk
      rw [Array.all_eq_true_iff_forall_mem]
      intro c hc
      exact decide_eq_true (h.2 c (by simpa using hc)), Nat.zero_le _⟩
  | 0, _, _, .lst h z r, q => by simp [plain] at q
  | 0, _, _, .tup h z r, q => by simp [plain] at q
  | k + 1, _, _, .lst h z r, q => by
    obtain ⟨h1, h2, h3⟩ := Reps.dp k r (by simpa [plain] using q)
    exact ⟨.lst (SqL.of h) h1, h2, Nat.succ_le_succ h3⟩
  | k + 1, _, _, .tup h z r, q => by
    obtain ⟨h1, h2, h3⟩ := Reps.dp k r (by simpa [plain] using q)
    exact ⟨.tup (SqT.of h) h1, h2, Nat.succ_le_succ h3⟩
  | k, _, _, .dctK .., q => by cases k <;> simp [plain] at q
  | k, _, _, .dctT .., q => by cases k <;> simp [plain] at q
  | k, _, _, .obj .., q => by cases k <;> simp [plain] at q
  | k, _, _, .box .., q => by cases k <;> simp [plain] at q
  | k, _, _, .scr .., q => by cases k <;> simp [plain] at q
theorem Reps.dp : ∀ (k : Nat) {v : List V} {d : List D}, Reps κ G iv v d → plains k d = true → DpAll K G v (toPys d) ∧ PyData.canLayAll0 (toPys d) = true ∧ PyData.depthAll (toPys d) ≤ k
  | _, _, _, .nil, _ => ⟨.nil, rfl, Nat.zero_le _⟩
  | k, _, _, .cons r t, q => by
    simp only [plains, Bool.and_eq_true] at q
    obtain ⟨h1, h2, h3⟩ := Rep.dp k r q.1
    obtain ⟨t1, t2, t3⟩ := Reps.dp k t q.2
    exact ⟨.cons h1 t1, by simp only [toPys, PyData.canLayAll0, h2, t2]; rfl, Nat.max_le.mpr ⟨h3, t3⟩⟩
end
end
mutual
theorem Dp.mono {K : PySem.W.Frag} {G H : Hp} (h : ∀ a o, G a = some o → At H a o) : ∀ {v : V} {d : PyData}, Dp K G v d → Dp K H v d
  | _, _, .non => .non
  | _, _, .bl b => .bl b
  | _, _, .int b => .int b
  | _, _, .str b => .str b
  | _, _, .lst q r => .lst (by
      rcases q with (q | ⟨o, q⟩) | q
      · exact .inl (.inl ((h _ _ q).x rfl))
      · exact .inl (.inr ⟨o, (h _ _ q).x rfl⟩)
      · exact .inr q) (DpAll.mono h r)
  | _, _, .tup q r => .tup (by
      rcases q with (q | ⟨o, q⟩) | q
      · exact .inl (.inl ((h _ _ q).x rfl))
      · exact .inl (.inr ⟨o, (h _ _ q).x rfl⟩)
      · exact .inr q) (DpAll.mono h r)
theorem DpAll.mono {K : PySem.W.Frag} {G H : Hp} (h : ∀ a o, G a = some o → At H a o) : ∀ {v : List V} {d : List PyData}, DpAll K G v d → DpAll K H v d
  | _, _, .nil => .nil
  | _, _, .cons r t => .cons (Dp.mono h r) (DpAll.mono h t)
end
@[simp] def gEq (x y : D) (n : Nat) (Q : D → Nat → Prop) : Prop := (plain 64 x = true ∧ plain 64 y = true) ∧ Q (.bl (eqD x y)) n
@[simp] def gNe (x y : D) (n : Nat) (Q : D → Nat → Prop) : Prop := (plain 64 x = true ∧ plain 64 y = true) ∧ Q (.bl (!eqD x y)) n
theorem shaped_of {d : PyData} (h1 : d.canLay0 = true) (h2 : d.depth ≤ 64) : SeqAt.shaped d = true := by
  unfold SeqAt.shaped
  rw [h1, decide_eq_true h2]; rfl
theorem cr_eq (hu : X.A.units + 64 < cLine)  : CR κ X .Eq gEq := by
  refine ⟨_, ?_, (op_eqD hu)⟩
  intro P G H x y dx dy Q R g rx ry hf hR
  obtain ⟨x1, x2, x3⟩ := Rep.dp (K := X.K) 64 rx hf.1.1
  obtain ⟨y1, y2, y3⟩ := Rep.dp (K := X.K) 64 ry hf.1.2
  refine ⟨_, _, Dp.mono g.gh x1, Dp.mono g.gh y1, shaped_of x2 x3, shaped_of y2 y3, ?_⟩
  rw [eqv_toPy 64 64 dx dy hf.1.1 hf.1.2]
  exact hR _ P G H _ .refl g .bl hf.2
theorem cr_ne (hu : X.A.units + 64 < cLine)  : CR κ X .NotEq gNe := by
  refine ⟨_, ?_, (op_neD hu)⟩
  intro P G H x y dx dy Q R g rx ry hf hR
  obtain ⟨x1, x2, x3⟩ := Rep.dp (K := X.K) 64 rx hf.1.1
  obtain ⟨y1, y2, y3⟩ := Rep.dp (K := X.K) 64 ry hf.1.2
  refine ⟨_, _, Dp.mono g.gh x1, Dp.mono g.gh y1, shaped_of x2 x3, shaped_of y2 y3, ?_⟩
  rw [eqv_toPy 64 64 dx dy hf.1.1 hf.1.2]
  exact hR _ P G H _ .refl g .bl hf.2
end
end DL
namespace DL
open PySem PySem.Spec PyProof.Rows L2
section
variable {κ : Kit} {X : Cx} {a b c e : Expr} {es : List Expr} {fa fb fc f : FE} {far : FA} {pos : Pos}
def gLt (x y : D) (n : Nat) (Q : D → Nat → Prop) : Prop := match x, y with
  | .int i, .int j => Q (.bl (decide (i < j))) n
  | .str s, .str t => Q (.bl (decide (s < t))) n
  | _, _ => False
def gLe (x y : D) (n : Nat) (Q : D → Nat → Prop) : Prop := match x, y with
  | .int i, .int j => Q (.bl (decide (i ≤ j))) n
  | .str s, .str t => Q (.bl (!decide (t < s))) n
  | _, _ => False
@[simp] def gGt (x y : D) (n : Nat) (Q : D → Nat → Prop) : Prop := gLt y x n Q
@[simp] def gGe (x y : D) (n : Nat) (Q : D → Nat → Prop) : Prop := gLe y x n Q
abbrev rLtA : R2 := fun x y H Q => (rI0 fun i j => .bl (decide (i < j))) x y H Q ∨ (∃ i j, x = .str i ∧ y = .str j ∧ Q (.bl (decide (i.cps.toList < j.cps.toList))) H)
abbrev rLeA : R2 := fun x y H Q => (rI0 fun i j => .bl (decide (i ≤ j))) x y H Q ∨ (∃ i j, x = .str i ∧ y = .str j ∧ Q (.bl (!decide (j.cps.toList < i.cps.toList))) H)
abbrev rGtA : R2 := fun x y H Q => (rI0 fun i j => .bl (decide (j < i))) x y H Q ∨ (∃ i j, x = .str i ∧ y = .str j ∧ Q (.bl (decide (j.cps.toList < i.cps.toList))) H)
abbrev rGeA : R2 := fun x y H Q => (rI0 fun i j => .bl (decide (j ≤ i))) x y H Q ∨ (∃ i j, x = .str i ∧ y = .str j ∧ Q (.bl (!decide (i.cps.toList < j.cps.toList))) H)
theorem cpsL (s : List Nat) : (⟨s.toArray⟩ : Str).cps.toList = s := by simp
theorem lift_lt : LiftR κ rLtA gLt := by
  intro P G H x y dx dy Q R g rx ry hf hR
  cases rx <;> cases ry <;> try (exact False.elim hf)
  · exact .inl ⟨_, _, rfl, rfl, hR _ P G H _ .refl g .bl hf⟩
  · exact .inr ⟨_, _, rfl, rfl, by rw [cpsL, cpsL]; exact hR _ P G H _ .refl g .bl hf⟩
theorem lift_le : LiftR κ rLeA gLe := by
  intro P G H x y dx dy Q R g rx ry hf hR
  cases rx <;> cases ry <;> try (exact False.elim hf)
  · exact .inl ⟨_, _, rfl, rfl, hR _ P G H _ .refl g .bl hf⟩
  · exact .inr ⟨_, _, rfl, rfl, by rw [cpsL, cpsL]; exact hR _ P G H _ .refl g .bl hf⟩
theorem lift_gt : LiftR κ rGtA gGt := by
  intro P G H x y dx dy Q R g rx ry hf hR
  cases rx <;> cases ry <;> try (exact False.elim hf)
  · exact .inl ⟨_, _, rfl, rfl, hR _ P G H _ .refl g .bl hf⟩
  · exact .inr ⟨_, _, rfl, rfl, by rw [cpsL, cpsL]; exact hR _ P G H _ .refl g .bl hf⟩
theorem lift_ge : LiftR κ rGeA gGe := by
  intro P G H x y dx dy Q R g rx ry hf hR
  cases rx <;> cases ry <;> try (exact False.elim hf)
  · exact .inl ⟨_, _, rfl, rfl, hR _ P G H _ .refl g .bl hf⟩
  · exact .inr ⟨_, _, rfl, rfl, by rw [cpsL, cpsL]; exact hR _ P G H _ .refl g .bl hf⟩
theorem op_ltA : OpR X (compareOp .Lt) rLtA := OpR.or op_lt op_lt_str
theorem op_leA : OpR X (compareOp .LtE) rLeA := OpR.or op_le op_le_str
theorem op_gtA : OpR X (compareOp .Gt) rGtA := OpR.or op_gt op_gt_str
theorem op_geA : OpR X (compareOp .GtE) rGeA := OpR.or op_ge op_ge_str
theorem cr_lt : CR κ X .Lt gLt := ⟨_, lift_lt, op_ltA⟩
theorem cr_le : CR κ X .LtE gLe := ⟨_, lift_le, op_leA⟩
theorem cr_gt : CR κ X .Gt gGt := ⟨_, lift_gt, op_gtA⟩
theorem cr_ge : CR κ X .GtE gGe := ⟨_, lift_ge, op_geA⟩
/-- a op b op' c -/
@[simp] def fChain (g g' : D → D → Nat → (D → Nat → Prop) → Prop) (fa fb fc : FE) : FE := fun env n Q => fa env n fun x n1 => fb env n1 fun y n2 => g x y n2 fun z n3 => gB z n3 fun k n3 => (if k = true then fc env n3 fun w n4 => g' y w n4 Q else Q (.bl false) n3)
theorem rep_bl {G : Hp} {iv : IV} {v : V} {k : Bool} (r : Rep κ G iv v (.bl k)) : v = .bl k := by cases r; rfl
theorem chain_lift {r r' : R2} {φ φ' : D → D → Nat → (D → Nat → Prop) → Prop} {ta tb tc : TE} (hl : LiftR κ r φ) (hl' : LiftR κ r' φ') (qa : RdE κ fa ta) (qb : RdE κ fb tb) (qc : RdE κ fc tc) : RdE κ (fChain φ φ' fa fb fc) (tChain r r' ta tb tc) := fun P G H σ env Q R g ev hf hR => by
  refine qa P G H σ env _ _ g ev hf fun x P1 G1 H1 dx gr1 g1 rx hf1 => qb P1 G1 H1 σ env _ _ g1 (ev.grow gr1) hf1 fun y P2 G2 H2 dy gr2 g2 ry hf2 => ?_
  refine hl P2 G2 H2 x y dx dy _ (fun z H3 => ∃ k, z = .bl k ∧ (if k = true then tc σ H3 fun w' H4 => r' y w' H4 R else R (.bl false) H3)) g2 (gr2.rep rx) ry hf2 ?_
  intro z P3 G3 H3 dz gr3 g3 rz hf3
  obtain ⟨k, ek, hf4⟩ := hf3
  subst ek
  refine ⟨k, rep_bl rz, ?_⟩
  cases k with
  | false => exact hR _ P3 G3 H3 _ ((gr1.trans gr2).trans gr3) g3 .bl hf4
  | true => exact qc P3 G3 H3 σ env _ _ g3 (((ev.grow gr1).grow gr2).grow gr3) hf4 fun w P4 G4 H4 dw gr4 g4 rw' hf5 => hl' P4 G4 H4 y w dy dw Q R g4 (gr4.rep (gr3.rep ry)) rw' hf5 (Lk.grow (((gr1.trans gr2).trans gr3).trans gr4) hR)
theorem e_chain {op op' : CmpOp} {φ φ' : D → D → Nat → (D → Nat → Prop) → Prop} (h1 : CR κ X op φ) (h2 : CR κ X op' φ') (ha : DE κ X a fa) (hb : DE κ X b fb) (hc : DE κ X c fc)
    (hm : lastMarks [op, op'] [b, c] = false := by with_unfolding_all rfl) : DE κ X (.Compare a [op, op'] [b, c] pos) (fChain φ φ' fa fb fc) := by
  obtain ⟨r, hl, ho⟩ := h1
  obtain ⟨r', hl', ho'⟩ := h2
  obtain ⟨ta, pa, qa⟩ := ha
  obtain ⟨tb, pb, qb⟩ := hb
  obtain ⟨tc, pc, qc⟩ := hc
  exact ⟨_, pe_chain ho ho' pa pb pc hm, chain_lift hl hl' qa qb qc⟩
theorem t_chain {op op' : CmpOp} {φ φ' : D → D → Nat → (D → Nat → Prop) → Prop} (h1 : CR κ X op φ) (h2 : CR κ X op' φ') (ha : DE κ X a fa) (hb : DE κ X b fb) (hc : DE κ X c fc)
    (hm : lastMarks [op, op'] [b, c] = false := by with_unfolding_all rfl) : DT κ X (.Compare a [op, op'] [b, c] pos) (tVal (fChain φ φ' fa fb fc)) := by
  obtain ⟨r, hl, ho⟩ := h1
  obtain ⟨r', hl', ho'⟩ := h2
  obtain ⟨ta, pa, qa⟩ := ha
  obtain ⟨tb, pb, qb⟩ := hb
  obtain ⟨tc, pc, qc⟩ := hc
  refine ⟨_, pt_chain ho ho' pa pb pc hm, fun P G H σ env Q R g ev hf hR => chain_lift hl hl' qa qb qc P G H σ env _ _ g ev hf fun v P' G' H' d gr g' rv hq => ?_⟩
  obtain ⟨b, e, hq⟩ := hq
  subst e
  exact ⟨b, rep_bl rv, hR b P' G' H' gr g' hq⟩
@[simp] def gIsN (x y : D) (n : Nat) (Q : D → Nat → Prop) : Prop := y = .non ∧ Q (.bl (decide (x = .non))) n
@[simp] def gNotN (x y : D) (n : Nat) (Q : D → Nat → Prop) : Prop := y = .non ∧ Q (.bl (!decide (x = .non))) n
theorem rep_non {G : Hp} {iv : IV} {v : V} {d : D} (r : Rep κ G iv v d) : decide (v = .non) = decide (d = .non) := by cases r <;> rfl
theorem cr_isN  : CR κ X .Is gIsN := by
  refine ⟨_, ?_, op_isN⟩
  intro P G H x y dx dy Q R g rx ry hf hR
  obtain ⟨e, hf⟩ := hf
  subst e
  cases ry
  exact ⟨rfl, by rw [rep_non rx]; exact hR _ P G H _ .refl g .bl hf⟩
theorem cr_notN  : CR κ X .IsNot gNotN := by
  refine ⟨_, ?_, op_notN⟩
  intro P G H x y dx dy Q R g rx ry hf hR
  obtain ⟨e, hf⟩ := hf
  subst e
  cases ry
  exact ⟨rfl, by rw [rep_non rx]; exact hR _ P G H _ .refl g .bl hf⟩
def flatD : D → Bool
  | .non => true | .bl _ => true | .int _ => true | .str _ => true | _ => false
@[simp] theorem flatD_non : flatD .non = true := rfl
@[simp] theorem flatD_bl (b : Bool) : flatD (.bl b) = true := rfl
@[simp] theorem flatD_int (i : Int) : flatD (.int i) = true := rfl
@[simp] theorem flatD_str (s : List Nat) : flatD (.str s) = true := rfl
@[simp] theorem flatD_lst (s : List D) : flatD (.lst s) = false := rfl
@[simp] theorem flatD_tup (s : List D) : flatD (.tup s) = false := rfl
@[simp] def isKeyD : D → Bool
  | .int _ => true | .str _ => true | _ => false
@[simp] def dGet : List D → List D → D → Option D
  | k :: ks, v :: vs, x => if k = x then some v else dGet ks vs x
  | _, _, _ => none
theorem keyD_inj {k l : Key} (h : keyD k = keyD l) : k = l := by
  cases k with
  | inl i => cases l with
    | inl j => simp [keyD] at h; rw [h]
    | inr y => simp [keyD] at h
  | inr x => cases l with
    | inl j => simp [keyD] at h
    | inr y =>
      simp only [keyD, D.str.injEq] at h
      have : x = y := by cases x; cases y; congr; exact Array.toList_inj.mp h
      rw [this]
theorem keyDs_inj : ∀ {k l : List Key}, k.map keyD = l.map keyD → k = l
  | [], [], _ => rfl
  | [], _ :: _, h => by simp at h
  | _ :: _, [], h => by simp at h
  | a :: k, b :: l, h => by
    simp only [List.map_cons, List.cons.injEq] at h
    rw [keyD_inj h.1, keyDs_inj h.2]
theorem valV_get {κ' : Type} [DecidableEq κ'] (κ : Kit) {f : κ' → D} (inj : ∀ {x y}, f x = f y → x = y) {G : Hp} {iv : IV} : ∀ {ks : List κ'} {us : List V} {vs : List D} {k : κ'}, ks.length = us.length → Reps κ G iv us vs →
    (∀ d, dGet (ks.map f) vs (f k) = some d → ∃ v, valV (ks.zip us) k = some v ∧ Rep κ G iv v d) ∧ (dGet (ks.map f) vs (f k) = none → valV (ks.zip us) k = none)
  | [], us, vs, k, _, _ => ⟨fun d h => by simp [dGet] at h, fun _ => rfl⟩
  | k0 :: ks, [], vs, k, hl, r => by simp at hl
  | k0 :: ks, u :: us, _, k, hl, .cons (d := d0) (ds := ds) r t => by
    have ih := valV_get κ inj (ks := ks) (us := us) (k := k) (by simpa using hl) t
    by_cases h : k0 = k
    · subst h
      refine ⟨fun d hd => ?_, fun hd => ?_⟩
      · simp only [List.map_cons, dGet, if_true, Option.some.injEq] at hd
        subst hd
        exact ⟨u, by simp [valV], r⟩
      · simp [dGet] at hd
    · have h' : ¬ f k0 = f k := fun e => h (inj e)
      simp only [List.map_cons, dGet, if_neg h']
      have e : valV ((k0 :: ks).zip (u :: us)) k = valV (ks.zip us) k := by simp [valV, h]
      rw [e]
      exact ih
theorem rep_key {G : Hp} {iv : IV} {v : V} {d : D} (r : Rep κ G iv v d) (h : isKeyD d = true) : ∃ k, v = kV k ∧ d = keyD k := by
  cases r <;> try (simp [isKeyD] at h)
  · exact ⟨.inl _, rfl, rfl⟩
  · rename_i s hs
    exact ⟨.inr ⟨s.toArray⟩, rfl, by simp [keyD]⟩
theorem reps_key {G : Hp} {iv : IV} : ∀ {v : List V} {d : List D}, Reps κ G iv v d → d.all isKeyD = true → ∃ k : List Key, v = k.map kV ∧ d = k.map keyD
  | _, _, .nil, _ => ⟨[], rfl, rfl⟩
  | _, _, .cons r t, h => by
    simp only [List.all_cons, Bool.and_eq_true] at h
    obtain ⟨k, e1, e2⟩ := rep_key r h.1
    obtain ⟨ks, e3, e4⟩ := reps_key t h.2
    exact ⟨k :: ks, by rw [e1, e3]; rfl, by rw [e2, e4]; rfl⟩
/-- a key of a dict that has keys of its kind -/
@[simp] def dKind : D → D → Bool
  | .dct _ _, k => isKeyD k
  | .dcu _ _, .tup xs => xs.all isKeyD
  | _, _ => false
def dLook : D → D → Option D
  | .dct ks vs, k => dGet ks vs k
  | .dcu ks vs, k => dGet ks vs k
  | _, _ => none
theorem rep_dget {G H : Hp} {iv : IV} {a : V} {dd : D} {y : V} {k : D} (hgh : ∀ a o, G a = some o → At H a o) (r : Rep κ G iv a dd) (ry : Rep κ G iv y k) (hk : dKind dd k = true) :
    ∃ p, a = .ref p ∧ ((∀ d, dLook dd k = some d → ∃ v, DGet H p y (some v) ∧ Rep κ G iv v d) ∧ (dLook dd k = none → DGet H p y none)) := by
  cases r with
  | @dctK p kk us _ h hl z nd r =>
    refine ⟨p, rfl, ?_⟩
    obtain ⟨k1, e1, e2⟩ := rep_key ry hk
    subst e1 e2
    have q := valV_get κ (f := keyD) keyD_inj (k := k1) hl r
    exact ⟨fun d hd => by
      obtain ⟨v, h1, h2⟩ := q.1 d hd
      exact ⟨v, .inl ⟨_, k1, (hgh _ _ h).rd, rfl, h1.symm⟩, h2⟩, fun hd => .inl ⟨_, k1, (hgh _ _ h).rd, rfl, (q.2 hd).symm⟩⟩
  | @dctT p kk us _ h hl z nd r =>
    refine ⟨p, rfl, ?_⟩
    cases ry with
    | tup hy zy ry' =>
      obtain ⟨k1, e1, e2⟩ := reps_key ry' hk
      subst e1 e2
      have q := valV_get κ (f := fun k : List Key => D.tup (k.map keyD)) (fun h => keyDs_inj (by simpa using h)) (k := k1) hl r
      exact ⟨fun d hd => by
        obtain ⟨v, h1, h2⟩ := q.1 d hd
        exact ⟨v, .inr ⟨_, k1, _, (hgh _ _ h).rd, rfl, (hgh _ _ hy).x rfl, h1.symm⟩, h2⟩, fun hd => .inr ⟨_, k1, _, (hgh _ _ h).rd, rfl, (hgh _ _ hy).x rfl, (q.2 hd).symm⟩⟩
    | _ => exact absurd hk (by simp [dKind])
  | _ => exact absurd hk (by simp [dKind])
/-- x in y: a list or tuple of flat things, a sign in a text, a key of a dict -/
def gIn (x y : D) (n : Nat) (Q : D → Nat → Prop) : Prop := match y with
  | .lst ys => (flatD x = true ∧ ys.all flatD = true) ∧ Q (.bl (ys.any fun y => eqD y x)) n
  | .tup ys => (flatD x = true ∧ ys.all flatD = true) ∧ Q (.bl (ys.any fun y => eqD y x)) n
  | .str t => ∃ c, x = .str [c] ∧ Q (.bl (decide (c ∈ t))) n
  | .dct ks vs => isKeyD x = true ∧ Q (.bl (dGet ks vs x).isSome) n
  | .dcu ks vs => dKind (.dcu ks vs) x = true ∧ Q (.bl (dGet ks vs x).isSome) n
  | _ => False
@[simp] def gNotIn (x y : D) (n : Nat) (Q : D → Nat → Prop) : Prop := gIn x y n fun d m => gB d m fun b m => Q (.bl (!b)) m
theorem flatV_of {G : Hp} {iv : IV} {v : V} {d : D} (r : Rep κ G iv v d) (h : flatD d = true) : flatV v = true := by
  cases r <;> first | rfl | (simp [flatD] at h)
theorem flatVs_of {G : Hp} {iv : IV} : ∀ {v : List V} {d : List D}, Reps κ G iv v d → d.all flatD = true → v.all flatV = true
  | _, _, .nil, _ => rfl
  | _, _, .cons r t, h => by
    simp only [List.all_cons, Bool.and_eq_true] at h ⊢
    exact ⟨flatV_of r h.1, flatVs_of t h.2⟩
theorem eqV_of {G : Hp} {iv : IV} {v u : V} {d e : D} (r : Rep κ G iv v d) (q : Rep κ G iv u e) (h : flatD d = true) (k : flatD e = true) : eqV v u = eqD d e := by
  cases r <;> (try (simp [flatD] at h; done)) <;> cases q <;> (try (simp [flatD] at k; done)) <;> simp [eqV, eqD, str_beq]
theorem inV_of {G : Hp} {iv : IV} {v : V} {d : D} (r : Rep κ G iv v d) (h : flatD d = true) : ∀ {us : List V} {es : List D}, Reps κ G iv us es → es.all flatD = true → inV v us = es.any fun y => eqD y d
  | _, _, .nil, _ => rfl
  | _, _, .cons q t, k => by
    simp only [List.all_cons, Bool.and_eq_true] at k
    have ih := inV_of r h t k.2
    unfold inV at ih ⊢
    rw [List.any_cons, List.any_cons, eqV_of q r k.1 h, ih]
abbrev rInD : R2 := fun y x H Q => ∃ a o, x = .ref a ∧ DGet H a y o ∧ Q (.bl o.isSome) H
abbrev rNotInD : R2 := fun y x H Q => ∃ a o, x = .ref a ∧ DGet H a y o ∧ Q (.bl (!o.isSome)) H
theorem op_inD (hu : X.A.units + 1 < cLine) : OpR X (compareOp .In) rInD := by
  intro pins s σ H x y v u Q I rx ry h
  obtain ⟨a, o, rfl, g, q⟩ := h
  obtain rfl : u = Value.ref a := ry
  exact d_in hu I g rx fun s' I' => ⟨.bl o.isSome, H, I', rfl, q⟩
theorem op_notInD (hu : X.A.units + 1 < cLine) : OpR X (compareOp .NotIn) rNotInD := by
  intro pins s σ H x y v u Q I rx ry h
  obtain ⟨a, o, rfl, g, q⟩ := h
  obtain rfl : u = Value.ref a := ry
  exact d_notIn hu I g rx fun s' I' => ⟨.bl (!o.isSome), H, I', rfl, q⟩
theorem cr_in (hu : X.A.units + 1 < cLine)  : CR κ X .In gIn := by
  refine ⟨fun x y H Q => rIn X.K false x y H Q ∨ ((∃ (c : Nat) (z : Str), x = .str ⟨#[c]⟩ ∧ y = .str z ∧ Q (.bl (decide (c ∈ z.cps.toList))) H) ∨ rInD x y H Q), ?_, (OpR.or op_in_seq (OpR.or op_in_sign (op_inD hu)))⟩
  intro P G H x y dx dy Q R g rx ry hf hR
  cases ry <;> try (exact False.elim hf)
  · obtain ⟨c, e, hf⟩ := hf
    subst e
    cases rx
    exact .inr (.inl ⟨c, _, rfl, rfl, by rw [cpsL]; exact hR _ P G H _ .refl g .bl hf⟩)
  · rename_i p us ys h z r
    refine .inl ⟨p, us, rfl, .inl (SqL.of (g.gx h rfl)), flatV_of rx hf.1.1, flatVs_of r hf.1.2, ?_⟩
    rw [show (if false = true then !inV x us else inV x us) = inV x us from rfl, inV_of rx hf.1.1 r hf.1.2]
    exact hR _ P G H _ .refl g .bl hf.2
  · rename_i p us ys h z r
    refine .inl ⟨p, us, rfl, .inr (SqT.of (g.gx h rfl)), flatV_of rx hf.1.1, flatVs_of r hf.1.2, ?_⟩
    rw [show (if false = true then !inV x us else inV x us) = inV x us from rfl, inV_of rx hf.1.1 r hf.1.2]
    exact hR _ P G H _ .refl g .bl hf.2
  · rename_i p kk us vs h hl z nd r
    have q := rep_dget g.gh (Rep.dctK h hl z nd r) rx hf.1
    obtain ⟨p', e, q1, q2⟩ := q
    cases e
    refine .inr (.inr ?_)
    cases e : dGet (kk.map keyD) vs dx with
    | none =>
      have hf2 := hf.2
      rw [e] at hf2
      exact ⟨p, none, rfl, q2 e, hR _ P G H _ .refl g .bl hf2⟩
    | some d =>
      obtain ⟨v, w1, w2⟩ := q1 d e
      have hf2 := hf.2
      rw [e] at hf2
      exact ⟨p, some v, rfl, w1, hR _ P G H _ .refl g .bl hf2⟩
  · rename_i p kk us vs h hl z nd r
    have q := rep_dget g.gh (Rep.dctT h hl z nd r) rx hf.1
    obtain ⟨p', e, q1, q2⟩ := q
    cases e
    refine .inr (.inr ?_)
    cases e : dGet (kk.map fun k => .tup (k.map keyD)) vs dx with
    | none =>
      have hf2 := hf.2
      rw [e] at hf2
      exact ⟨p, none, rfl, q2 e, hR _ P G H _ .refl g .bl hf2⟩
    | some d =>
      obtain ⟨v, w1, w2⟩ := q1 d e
      have hf2 := hf.2
      rw [e] at hf2
      exact ⟨p, some v, rfl, w1, hR _ P G H _ .refl g .bl hf2⟩
theorem cr_notIn (hu : X.A.units + 1 < cLine)  : CR κ X .NotIn gNotIn := by
  refine ⟨fun x y H Q => rIn X.K true x y H Q ∨ ((∃ (c : Nat) (z : Str), x = .str ⟨#[c]⟩ ∧ y = .str z ∧ Q (.bl (!decide (c ∈ z.cps.toList))) H) ∨ rNotInD x y H Q), ?_, (OpR.or op_notIn_seq (OpR.or op_notIn_sign (op_notInD hu)))⟩
  intro P G H x y dx dy Q R g rx ry hf hR
  cases ry <;> try (exact False.elim hf)
  · obtain ⟨c, e, b, eb, hf⟩ := hf
    subst e
    cases eb
    cases rx
    exact .inr (.inl ⟨c, _, rfl, rfl, by rw [cpsL]; exact hR _ P G H _ .refl g .bl hf⟩)
  · rename_i p us ys h z r
    obtain ⟨hf1, b, eb, hf⟩ := hf
    cases eb
    refine .inl ⟨p, us, rfl, .inl (SqL.of (g.gx h rfl)), flatV_of rx hf1.1, flatVs_of r hf1.2, ?_⟩
    rw [show (if true = true then !inV x us else inV x us) = !inV x us from rfl, inV_of rx hf1.1 r hf1.2]
    exact hR _ P G H _ .refl g .bl hf
  · rename_i p us ys h z r
    obtain ⟨hf1, b, eb, hf⟩ := hf
    cases eb
    refine .inl ⟨p, us, rfl, .inr (SqT.of (g.gx h rfl)), flatV_of rx hf1.1, flatVs_of r hf1.2, ?_⟩
    rw [show (if true = true then !inV x us else inV x us) = !inV x us from rfl, inV_of rx hf1.1 r hf1.2]
    exact hR _ P G H _ .refl g .bl hf
  · rename_i p kk us vs h hl z nd r
    obtain ⟨hf1, b, eb, hf⟩ := hf
    cases eb
    have q := rep_dget g.gh (Rep.dctK h hl z nd r) rx hf1
    obtain ⟨p', e, q1, q2⟩ := q
    cases e
    refine .inr (.inr ?_)
    cases e : dGet (kk.map keyD) vs dx with
    | none =>
      rw [e] at hf
      exact ⟨p, none, rfl, q2 e, hR _ P G H _ .refl g .bl hf⟩
    | some d =>
      obtain ⟨v, w1, w2⟩ := q1 d e
      rw [e] at hf
      exact ⟨p, some v, rfl, w1, hR _ P G H _ .refl g .bl hf⟩
  · rename_i p kk us vs h hl z nd r
    obtain ⟨hf1, b, eb, hf⟩ := hf
    cases eb
    have q := rep_dget g.gh (Rep.dctT h hl z nd r) rx hf1
    obtain ⟨p', e, q1, q2⟩ := q
    cases e
    refine .inr (.inr ?_)
    cases e : dGet (kk.map fun k => .tup (k.map keyD)) vs dx with
    | none =>
      rw [e] at hf
      exact ⟨p, none, rfl, q2 e, hR _ P G H _ .refl g .bl hf⟩
    | some d =>
      obtain ⟨v, w1, w2⟩ := q1 d e
      rw [e] at hf
      exact ⟨p, some v, rfl, w1, hR _ P G H _ .refl g .bl hf⟩
end
end DL
namespace DL
open PySem PySem.Spec PyProof.Rows L2
section
variable {κ : Kit} {X : Cx} {a b c e : Expr} {es : List Expr} {fa fb fc f : FE} {far : FA} {pos : Pos} {t1 t2 : FT}
theorem dt_val (h : DE κ X e f) (he : ∀ whole, isTrue e X.env whole = (do let v ← whole; standAt e.pos; holding [v] (truthy v)) := by intro _; rfl) : DT κ X e (tVal f) := by
  obtain ⟨t, p, q⟩ := h
  refine ⟨_, pt_val p he, fun P G H σ env Q R g ev hf hR => q P G H σ env _ _ g ev hf fun v P' G' H' d gr g' r hq => ?_⟩
  obtain ⟨b, e, hq⟩ := hq
  subst e
  exact ⟨b, rep_bl r, hR b P' G' H' gr g' hq⟩
@[simp] def truD : D → Option Bool
  | .non => some false
  | .bl b => some b
  | .int i => some (i != 0)
  | .str s => some (!s.isEmpty)
  | .lst xs => some (!xs.isEmpty)
  | .tup xs => some (!xs.isEmpty)
  | _ => none
/-- its truth -/
def gTr (d : D) (m : Nat) (Q : Bool → Nat → Prop) : Prop := ∃ b, truD d = some b ∧ Q b m
theorem gTr_of {d : D} {b : Bool} {m : Nat} {Q : Bool → Nat → Prop} (e : truD d = some b) : gTr d m Q = Q b m := by
  refine propext ⟨?_, fun h => ⟨b, e, h⟩⟩
  rintro ⟨c, e', h⟩
  rw [e] at e'; cases e'
  exact h
@[simp] theorem gTr_non {m : Nat} {Q : Bool → Nat → Prop} : gTr .non m Q = Q false m := gTr_of rfl
@[simp] theorem gTr_bl {b : Bool} {m : Nat} {Q : Bool → Nat → Prop} : gTr (.bl b) m Q = Q b m := gTr_of rfl
@[simp] theorem gTr_int {i : Int} {m : Nat} {Q : Bool → Nat → Prop} : gTr (.int i) m Q = Q (i != 0) m := gTr_of rfl
@[simp] theorem gTr_str {s : List Nat} {m : Nat} {Q : Bool → Nat → Prop} : gTr (.str s) m Q = Q (!s.isEmpty) m := gTr_of rfl
@[simp] theorem gTr_lst {s : List D} {m : Nat} {Q : Bool → Nat → Prop} : gTr (.lst s) m Q = Q (!s.isEmpty) m := gTr_of rfl
@[simp] theorem gTr_tup {s : List D} {m : Nat} {Q : Bool → Nat → Prop} : gTr (.tup s) m Q = Q (!s.isEmpty) m := gTr_of rfl
@[simp] def tTru (f : FE) : FT := fun env n Q => f env n fun d m => gTr d m Q
theorem emp_of {G : Hp} {iv : IV} {vs : List V} {ds : List D} (r : Reps κ G iv vs ds) : vs.isEmpty = ds.isEmpty := by cases r <;> rfl
theorem rep_tru {K : PySem.W.Frag} {G H : Hp} {iv : IV} {v : V} {d : D} {b : Bool} (hgh : ∀ a o, G a = some o → At H a o) (r : Rep κ G iv v d) (h : truD d = some b) : TruV K v H b := by
  cases r <;> simp only [truD, Option.some.injEq, reduceCtorEq] at h
  · exact h.symm
  · exact h.symm
  · exact h.symm
  · rename_i s hs
    refine ⟨by rw [str_len]; exact hs.1, ?_⟩
    rw [str_len, ← h]
    cases s with
    | nil => rfl
    | cons c s => show true = (((c :: s).length : Int) != 0); rw [eq_comm, bne_iff_ne]; simp only [List.length_cons]; omega
  · rename_i p us ys h1 z r
    exact .inl ⟨us, SqL.of ((hgh _ _ h1).x rfl), by rw [emp_of r]; exact h.symm⟩
  · rename_i p us ys h1 z r
    exact .inr (.inl ⟨us, SqT.of ((hgh _ _ h1).x rfl), by rw [emp_of r]; exact h.symm⟩)
theorem dt_tru (h : DE κ X e f) (he : ∀ whole, isTrue e X.env whole = (do let v ← whole; standAt e.pos; holding [v] (truthy v)) := by intro _; rfl) : DT κ X e (tTru f) := by
  obtain ⟨t, p, q⟩ := h
  refine ⟨_, pt_truth p he, fun P G H σ env Q R g ev hf hR => q P G H σ env _ _ g ev hf fun v P' G' H' d gr g' r hq => ?_⟩
  obtain ⟨b, e, hq⟩ := hq
  exact ⟨b, rep_tru g'.gh r e, hR b P' G' H' gr g' hq⟩
/-- and, or as tests -/
def DW (κ : Kit) (X : Cx) (e : Expr) (f : FT) : Prop := ∃ t, PW X e t ∧ RdT κ f t
theorem DW.dt (h : DW κ X e t1) : DT κ X e t1 := by
  obtain ⟨t, p, q⟩ := h
  exact ⟨t, p.pt, q⟩
@[simp] def tAndD (a b : FT) : FT := fun env n Q => a env n fun c m => if c = true then b env m Q else Q false m
@[simp] def tOrD (a b : FT) : FT := fun env n Q => a env n fun c m => if c = true then Q true m else b env m Q
@[simp] def tNotD (a : FT) : FT := fun env n Q => a env n fun c m => Q (!c) m
theorem dw_and1 (h : DT κ X a t1) : DW κ X (.BoolOp .And [a] pos) t1 := by
  obtain ⟨t, p, q⟩ := h
  exact ⟨t, pw_and1 p, q⟩
theorem dw_or1 (h : DT κ X a t1) : DW κ X (.BoolOp .Or [a] pos) t1 := by
  obtain ⟨t, p, q⟩ := h
  exact ⟨t, pw_or1 p, q⟩
theorem LkT.grow {P P1 : Wd} {G H G1 H1 : Hp} {Q : Bool → Nat → Prop} {R : Bool → Hp → Prop} (gr : Grow P G H P1 G1 H1) (h : LkT κ P G H Q R) : LkT κ P1 G1 H1 Q R := fun b P' G' H' gr' g' q => h b P' G' H' (gr.trans gr') g' q
theorem dw_and (h1 : DT κ X a t1) (h2 : DW κ X (.BoolOp .And (b :: es) pos) t2) : DW κ X (.BoolOp .And (a :: b :: es) pos) (tAndD t1 t2) := by
  obtain ⟨u1, p1, q1⟩ := h1
  obtain ⟨u2, p2, q2⟩ := h2
  refine ⟨_, pw_and p1 p2, fun P G H σ env Q R g ev hf hR => q1 P G H σ env _ _ g ev hf fun c P' G' H' gr g' hq => ?_⟩
  cases c with
  | true => exact q2 P' G' H' σ env _ _ g' (ev.grow gr) hq (hR.grow gr)
  | false => exact hR false P' G' H' gr g' hq
theorem dw_or (h1 : DT κ X a t1) (h2 : DW κ X (.BoolOp .Or (b :: es) pos) t2) : DW κ X (.BoolOp .Or (a :: b :: es) pos) (tOrD t1 t2) := by
  obtain ⟨u1, p1, q1⟩ := h1
  obtain ⟨u2, p2, q2⟩ := h2
  refine ⟨_, pw_or p1 p2, fun P G H σ env Q R g ev hf hR => q1 P G H σ env _ _ g ev hf fun c P' G' H' gr g' hq => ?_⟩
  cases c with
  | false => exact q2 P' G' H' σ env _ _ g' (ev.grow gr) hq (hR.grow gr)
  | true => exact hR true P' G' H' gr g' hq
theorem dt_not (h1 : DT κ X a t1) : DT κ X (.UnaryOp .Not a pos) (tNotD t1) := by
  obtain ⟨u1, p1, q1⟩ := h1
  exact ⟨_, pt_not p1, fun P G H σ env Q R g ev hf hR => q1 P G H σ env _ _ g ev hf fun c P' G' H' gr g' hq => hR (!c) P' G' H' gr g' hq⟩
/-- and, or, not as values, all but the last True or False -/
@[simp] def fAnd (fa fb : FE) : FE := fun env n Q => fa env n fun x m => gB x m fun c m => if c = true then fb env m Q else Q (.bl false) m
@[simp] def fOr (fa fb : FE) : FE := fun env n Q => fa env n fun x m => gB x m fun c m => if c = true then Q (.bl true) m else fb env m Q
@[simp] def fNot (fa : FE) : FE := fun env n Q => fa env n fun x m => gB x m fun c m => Q (.bl (!c)) m
theorem de_one {op} (h : DE κ X a f) : DE κ X (.BoolOp op [a] pos) f := by
  obtain ⟨t, p, q⟩ := h
  exact ⟨t, pe_one p, q⟩
theorem de_and (ha : DE κ X a fa) (hb : DE κ X (.BoolOp .And (b :: es) pos) fb) : DE κ X (.BoolOp .And (a :: b :: es) pos) (fAnd fa fb) := by
  obtain ⟨u1, p1, q1⟩ := ha
  obtain ⟨u2, p2, q2⟩ := hb
  refine ⟨_, pe_and p1 p2, fun P G H σ env Q R g ev hf hR => q1 P G H σ env _ _ g ev hf fun v P' G' H' d gr g' r hq => ?_⟩
  obtain ⟨c, e, hq⟩ := hq
  subst e
  refine ⟨c, rep_bl r, ?_⟩
  cases c with
  | true => exact q2 P' G' H' σ env _ _ g' (ev.grow gr) hq (hR.grow gr)
  | false => exact hR _ P' G' H' _ gr g' .bl hq
theorem de_or (ha : DE κ X a fa) (hb : DE κ X (.BoolOp .Or (b :: es) pos) fb) : DE κ X (.BoolOp .Or (a :: b :: es) pos) (fOr fa fb) := by
  obtain ⟨u1, p1, q1⟩ := ha
  obtain ⟨u2, p2, q2⟩ := hb
  refine ⟨_, pe_or p1 p2, fun P G H σ env Q R g ev hf hR => q1 P G H σ env _ _ g ev hf fun v P' G' H' d gr g' r hq => ?_⟩
  obtain ⟨c, e, hq⟩ := hq
  subst e
  refine ⟨c, rep_bl r, ?_⟩
  cases c with
  | false => exact q2 P' G' H' σ env _ _ g' (ev.grow gr) hq (hR.grow gr)
  | true => exact hR _ P' G' H' _ gr g' .bl hq
theorem de_not (ha : DE κ X a fa) : DE κ X (.UnaryOp .Not a pos) (fNot fa) := by
  obtain ⟨u1, p1, q1⟩ := ha
  refine ⟨_, pe_not p1, fun P G H σ env Q R g ev hf hR => q1 P G H σ env _ _ g ev hf fun v P' G' H' d gr g' r hq => ?_⟩
  obtain ⟨c, e, hq⟩ := hq
  subst e
  exact ⟨c, rep_bl r, hR _ P' G' H' _ gr g' .bl hq⟩
@[simp] def fIf (t : FT) (fa fb : FE) : FE := fun env n Q => t env n fun c m => if c = true then fa env m Q else fb env m Q
theorem de_if (hc : DT κ X c t1) (ha : DE κ X a fa) (hb : DE κ X b fb) : DE κ X (.IfExp c a b pos) (fIf t1 fa fb) := by
  obtain ⟨u0, p0, q0⟩ := hc
  obtain ⟨u1, p1, q1⟩ := ha
  obtain ⟨u2, p2, q2⟩ := hb
  refine ⟨_, pe_ifExp p0 p1 p2, fun P G H σ env Q R g ev hf hR => q0 P G H σ env _ _ g ev hf fun c P' G' H' gr g' hq => ?_⟩
  cases c with
  | true => exact q1 P' G' H' σ env _ _ g' (ev.grow gr) hq (hR.grow gr)
  | false => exact q2 P' G' H' σ env _ _ g' (ev.grow gr) hq (hR.grow gr)
inductive Ty where | int | str | bool | list | tuple | dict
  deriving DecidableEq
def Ty.nm : Ty → String
  | .int => "int" | .str => "str" | .bool => "bool" | .list => "list" | .tuple => "tuple" | .dict => "dict"
def tyNm : D → Option String
  | .non => some "NoneType" | .bl _ => some "bool" | .int _ => some "int" | .str _ => some "str" | .lst _ => some "list" | .tup _ => some "tuple" | .dct _ _ => some "dict"
  | _ => none
@[simp] def isiD : Ty → D → Bool
  | .int, .int _ => true | .int, .bl _ => true | .str, .str _ => true | .bool, .bl _ => true | .list, .lst _ => true | .tuple, .tup _ => true | .dict, .dct _ _ => true
  | _, _ => false
@[simp] def hasTy : D → Bool
  | .obj _ _ => false | .dcu _ _ => false | .box _ _ => false | .scr _ => false | _ => true
theorem kit_isi (K : PySem.W.Frag) (T : Ty) (d : D) (h : hasTy d = true) : ∃ s, tyNm d = some s ∧ PySem.W.kitOne K (.type s) (.type T.nm) = some (isiD T d) := by
  cases d <;> try (simp [hasTy] at h)
  all_goals (refine ⟨_, rfl, kit_ty ?_⟩; cases T <;> (dsimp only [isiD, Ty.nm]; decide +kernel))
theorem rep_tyx {K : PySem.W.Frag} {G H : Hp} {iv : IV} {v : V} {d : D} {s : String} (hgh : ∀ a o, G a = some o → At H a o) (r : Rep κ G iv v d) (h : tyNm d = some s) : TyX K H v (.type s) := by
  cases r <;> simp only [tyNm, Option.some.injEq, reduceCtorEq] at h <;> subst h
  · exact .base .non
  · exact .base (.bl _)
  · exact .base (.int _)
  · exact .base (.str _)
  · rename_i h1 _ _; exact .base (.lst ((hgh _ _ h1).x rfl))
  · rename_i h1 _ _; exact .base (.tup ((hgh _ _ h1).x rfl))
  · rename_i h1 _ _ _ _
    rcases hgh _ _ h1 with q | ⟨_, od, q⟩
    · exact .base (.dK q)
    · exact .fDict q
@[simp] def fIsi (T : Ty) (f : FE) : FE := fun env n Q => f env n fun d m => hasTy d = true ∧ Q (.bl (isiD T d)) m
theorem de_isi (T : Ty) {p p2 : Pos} {y : Str} (ha : DE κ X a f) (hg : Gl X "isinstance") (hm : X.mg "isinstance" = none) (hgT : Gl X y) (hmT : X.mg y = none) (hy : y = Str.ofString T.nm)
    (he : starEach [a, .Name y p2] X.env = (false, eval a X.env) :: starEach [.Name y p2] X.env := by rfl) (he2 : starEach [.Name y p2] X.env = (false, eval (.Name y p2) X.env) :: starEach [] X.env := by rfl) (hpl : (backTo pos (starEach [.Name y p2] X.env)).any (·.1) = false := by rfl) :
    DE κ X (.Call (.Name "isinstance" p) [a, .Name y p2] [] pos) (fIsi T f) := by
  obtain ⟨t, pa, q⟩ := ha
  have hT : PE X (.Name y p2) (tC (.ty T.nm)) := by
    subst hy
    cases T <;> exact pe_bltn hgT hmT (u := .type _) (by decide +kernel) rfl
  refine ⟨_, pe_callB call_isi hg hm boot_isinstance (pa_cons pa (pa_cons hT pa_nil he2) he) (by decide) (by decide) he hpl, fun P G H σ env Q R g ev hf hR => q P G H σ env _ _ g ev hf fun v P' G' H' d gr g' r hq => ?_⟩
  obtain ⟨s, h1, h2⟩ := kit_isi X.K T d hq.1
  exact ⟨v, .ty T.nm, .type s, .type T.nm, isiD T d, rfl, .ty _, rep_tyx g'.gh r h1, h2, hR _ P' G' H' _ gr g' .bl hq.2⟩
/-- the names of built-in types, as arguments -/
structure DTys (X : Cx) (es : List Expr) (Ts : List Ty) : Prop where
  pa : PA X es (fun _ H Q => Q (Ts.map fun T => V.ty T.nm) H)
theorem dtys_nil : DTys X [] [] := ⟨pa_nil⟩
theorem dtys_cons (T : Ty) {Ts : List Ty} {p2 : Pos} {y : Str} (r : DTys X es Ts) (hgT : Gl X y) (hmT : X.mg y = none) (hy : y = Str.ofString T.nm) (he2 : starEach (.Name y p2 :: es) X.env = (false, eval (.Name y p2) X.env) :: starEach es X.env := by rfl) : DTys X (.Name y p2 :: es) (T :: Ts) := by
  have hT : PE X (.Name y p2) (tC (.ty T.nm)) := by
    subst hy
    cases T <;> exact pe_bltn hgT hmT (u := .type _) (by decide +kernel) rfl
  exact ⟨pa_cons hT r.pa he2⟩
@[simp] def fIsiT (Ts : List Ty) (f : FE) : FE := fun env n Q => f env n fun d m => hasTy d = true ∧ Q (.bl (Ts.any fun T => isiD T d)) m
theorem kitAny_tys (K : PySem.W.Frag) {s : String} {d : D} (hd : hasTy d = true) (hs : tyNm d = some s) : ∀ Ts : List Ty, PySem.W.kitAny K (.type s) (Ts.map fun T => Value.type T.nm) = some (Ts.any fun T => isiD T d)
  | [] => kitAny_nil
  | T :: Ts => by
    obtain ⟨s', h1, h2⟩ := kit_isi K T d hd
    rw [hs] at h1
    cases h1
    refine kitAny_cons h2 (fun hb => ?_) (fun hb => ?_)
    · rw [kitAny_tys K hd hs Ts, List.any_cons, hb]; rfl
    · rw [List.any_cons, hb]; rfl
theorem de_isiT (Ts : List Ty) {p p2 : Pos} {x1} (hz : Ts.length ≤ 100) (ha : DE κ X a f) (hTs : DTys X es Ts) (hg : Gl X "isinstance") (hm : X.mg "isinstance" = none)
    (he : starEach [a, .Tuple es x1 p2] X.env = (false, eval a X.env) :: starEach [.Tuple es x1 p2] X.env := by rfl) (he2 : starEach [.Tuple es x1 p2] X.env = (false, eval (.Tuple es x1 p2) X.env) :: starEach [] X.env := by rfl) (hpl : (backTo pos (starEach [.Tuple es x1 p2] X.env)).any (·.1) = false := by rfl) :
    DE κ X (.Call (.Name "isinstance" p) [a, .Tuple es x1 p2] [] pos) (fIsiT Ts f) := by
  obtain ⟨t, pa, q⟩ := ha
  refine ⟨_, pe_callB call_isiT hg hm boot_isinstance (pa_cons pa (pa_cons (pe_tup hTs.pa) pa_nil he2) he) (by decide) (by decide) he hpl, fun P G H σ env Q R g ev hf hR => q P G H σ env _ _ g ev hf fun v P' G' H' d gr g' r hq => ?_⟩
  refine ⟨?_, fun tp htp => ?_⟩
  · rw [List.length_map]; exact Nat.le_trans hz (by decide)
  · cases hn : tyNm d with
    | none => cases d <;> simp [tyNm, hasTy] at hn hq
    | some s =>
      refine ⟨v, tp, _, .type s, Ts.map fun T => Value.type T.nm, _, rfl, upd_same, ?_, ?_, kitAny_tys X.K hq.1 hn Ts, hR _ P' G' _ _ (gr.trans (Grow.new htp)) (g'.new htp) .bl hq.2⟩
      · have : ∀ Ts : List Ty, Paired ClsV (Ts.map fun T => V.ty T.nm) (Ts.map fun T => Value.type T.nm) := fun Ts => by
          induction Ts with
          | nil => exact .nil
          | cons T Ts ih => exact .cons (.ty _) ih
        exact this Ts
      · exact rep_tyx (fun b o h => (g'.new htp).gh b o h) r hn
end
end DL
namespace DL
open PySem PySem.Spec PyProof.Rows L2
theorem val1 {κ : Kit} {G : Hp} {iv : IV} {vs : List V} {d : D} (r : Reps κ G iv vs [d]) : ∃ v, vs = [v] ∧ Rep κ G iv v d := by
  cases r with | cons r t => cases t; exact ⟨_, rfl, r⟩
theorem val2 {κ : Kit} {G : Hp} {iv : IV} {vs : List V} {d e : D} (r : Reps κ G iv vs [d, e]) : ∃ v u, vs = [v, u] ∧ Rep κ G iv v d ∧ Rep κ G iv u e := by
  cases r with | cons r t => cases t with | cons r2 t => cases t; exact ⟨_, _, rfl, r, r2⟩
theorem vals_at : ∀ {vs : List V} {us : List Value}, vs.length = us.length → (∀ (j : Nat) (y : V) (u : Value), vs[j]? = some y → us[j]? = some u → RelV y u) → Vals vs us
  | [], [], _, _ => .nil
  | [], _ :: _, h, _ => by simp at h
  | _ :: _, [], h, _ => by simp at h
  | v :: vs, u :: us, h, f => .cons (f 0 v u rfl rfl) (vals_at (by simpa using h) fun j y w h1 h2 => f (j + 1) y w (by simpa using h1) (by simpa using h2))
section
variable {κ : Kit} {X : Cx} {a b c e : Expr} {es : List Expr} {fa fb fc f : FE} {far : FA} {pos : Pos} {t1 t2 : FT}
@[simp] def lenD : D → Option Nat
  | .str s => some s.length | .lst xs => some xs.length | .tup xs => some xs.length | .dct ks _ => some ks.length | .scr ns => some ns.length | _ => none
def gLen (ds : List D) (n : Nat) (Q : D → Nat → Prop) : Prop := match ds with
  | [.str s] => Q (.int s.length) n
  | [.lst s] => Q (.int s.length) n
  | [.tup s] => Q (.int s.length) n
  | [.dct s _] => Q (.int s.length) n
  | [.scr s] => Q (.int s.length) n
  | _ => False
theorem call_lenR : CallR X (.builtin "len") (fun xs H Q => ∃ a kvs, xs = [V.ref a] ∧ Rd H a (.dK kvs) ∧ Q (.int kvs.length) H) := by
  intro pins s σ H xs us Q I r h
  obtain ⟨a, kvs, rfl, ha, q⟩ := h
  obtain ⟨u, rfl, ru⟩ := vals1 r
  cases ru
  exact d_len I ha fun t s' I' => ⟨.int kvs.length, H, I', ⟨t, rfl⟩, q⟩
theorem de_len {x : Str} {p : Pos} (hK : κ.K = X.K) (hx : x = "len") (hg : Gl X x) (hm : X.mg x = none) (ha : DA κ X (e :: es) far)
    (he : starEach (e :: es) X.env = (false, eval e X.env) :: starEach es X.env := by rfl) (hpl : (backTo pos (starEach es X.env)).any (·.1) = false := by rfl) : DE κ X (.Call (.Name x p) (e :: es) [] pos) (fCl gLen far) := by
  subst hx
  refine de_callB ?_ (CallR.or call_len_seq (CallR.or call_len_str call_lenR)) hg hm boot_len ha (by decide) (by decide) he hpl
  intro P G H vs ds Q R g r hf hR
  unfold gLen at hf
  split at hf
  · obtain ⟨v, rfl, rv⟩ := val1 r
    cases rv with
    | str h => exact .inr (.inl ⟨_, rfl, by rw [str_len]; exact h.1, by rw [str_len]; exact hR _ P G H _ .refl g .int hf⟩)
  · obtain ⟨v, rfl, rv⟩ := val1 r
    cases rv with
    | lst h z r => exact .inl ⟨_, _, rfl, .inl (SqL.of (g.gx h rfl)), by rw [r.length]; exact hR _ P G H _ .refl g .int hf⟩
  · obtain ⟨v, rfl, rv⟩ := val1 r
    cases rv with
    | tup h z r => exact .inl ⟨_, _, rfl, .inr (SqT.of (g.gx h rfl)), by rw [r.length]; exact hR _ P G H _ .refl g .int hf⟩
  · obtain ⟨v, rfl, rv⟩ := val1 r
    cases rv with
    | dctK h hl z nd r => exact .inr (.inr ⟨_, _, rfl, (g.gh _ _ h).rd, by
        rw [List.length_map] at hf
        rw [List.length_zip, ← hl, Nat.min_self]; exact hR _ P G H _ .refl g .int hf⟩)
  · obtain ⟨v, rfl, rv⟩ := val1 r
    cases rv with
    | scr h z => exact .inl ⟨_, _, rfl, .inl (by rw [← hK]; exact sql_at g.gh h), by rw [List.length_map]; exact hR _ P G H _ .refl g .int hf⟩
  · exact hf.elim
@[simp] def gAll (ds : List D) (n : Nat) (Q : D → Nat → Prop) : Prop := ∃ bs : List Bool, ds = [.lst (bs.map D.bl)] ∧ Q (.bl (bs.all id)) n
@[simp] def gAny (ds : List D) (n : Nat) (Q : D → Nat → Prop) : Prop := ∃ bs : List Bool, ds = [.lst (bs.map D.bl)] ∧ Q (.bl (bs.any id)) n
@[simp] def gSum (ds : List D) (n : Nat) (Q : D → Nat → Prop) : Prop := ∃ ns : List Int, ds = [.lst (ns.map D.int)] ∧ Q (.int ns.sum) n
def gMin (ds : List D) (n : Nat) (Q : D → Nat → Prop) : Prop := match ds with
  | [.int i, .int j] => Q (.int (min i j)) n
  | _ => ∃ ns : List Int, ds = [.lst (ns.map D.int)] ∧ ns ≠ [] ∧ ∀ m, m ∈ ns → (∀ y ∈ ns, m ≤ y) → Q (.int m) n
def gMax (ds : List D) (n : Nat) (Q : D → Nat → Prop) : Prop := match ds with
  | [.int i, .int j] => Q (.int (max i j)) n
  | _ => ∃ ns : List Int, ds = [.lst (ns.map D.int)] ∧ ns ≠ [] ∧ ∀ m, m ∈ ns → (∀ y ∈ ns, y ≤ m) → Q (.int m) n
theorem de_all {x : Str} {p : Pos} (hc : X.calm = true) (hx : x = "all") (hg : Gl X x) (hm : X.mg x = none) (ha : DA κ X (e :: es) far)
    (he : starEach (e :: es) X.env = (false, eval e X.env) :: starEach es X.env := by rfl) (hpl : (backTo pos (starEach es X.env)).any (·.1) = false := by rfl) : DE κ X (.Call (.Name x p) (e :: es) [] pos) (fCl gAll far) := by
  subst hx
  refine de_callB ?_ (cr_all hc) hg hm (by decide +kernel) ha (by decide) (by decide) he hpl
  intro P G H vs ds Q R g r hf hR
  obtain ⟨bs, rfl, hf⟩ := hf
  obtain ⟨v, rfl, rv⟩ := val1 r
  cases rv with
  | lst h z r => rw [r.of_bls] at h; exact ⟨_, bs, rfl, SqL.of (g.gx h rfl), hR _ P G H _ .refl g .bl hf⟩
theorem de_sum {x : Str} {p : Pos} (hc : X.calm = true) (hx : x = "sum") (hg : Gl X x) (hm : X.mg x = none) (ha : DA κ X (e :: es) far)
    (he : starEach (e :: es) X.env = (false, eval e X.env) :: starEach es X.env := by rfl) (hpl : (backTo pos (starEach es X.env)).any (·.1) = false := by rfl) : DE κ X (.Call (.Name x p) (e :: es) [] pos) (fCl gSum far) := by
  subst hx
  refine de_callB ?_ (cr_sum hc) hg hm (by decide +kernel) ha (by decide) (by decide) he hpl
  intro P G H vs ds Q R g r hf hR
  obtain ⟨bs, rfl, hf⟩ := hf
  obtain ⟨v, rfl, rv⟩ := val1 r
  cases rv with
  | lst h z r => rw [r.of_ints] at h; exact ⟨_, bs, rfl, SqL.of (g.gx h rfl), hR _ P G H _ .refl g .int hf⟩
theorem de_min {x : Str} {p : Pos} (hc : X.calm = true) (hx : x = "min") (hg : Gl X x) (hm : X.mg x = none) (ha : DA κ X (e :: es) far)
    (he : starEach (e :: es) X.env = (false, eval e X.env) :: starEach es X.env := by rfl) (hpl : (backTo pos (starEach es X.env)).any (·.1) = false := by rfl) : DE κ X (.Call (.Name x p) (e :: es) [] pos) (fCl gMin far) := by
  subst hx
  refine de_callB ?_ (CallR.or (call_min2 hc) (cr_min hc)) hg hm (by decide +kernel) ha (by decide) (by decide) he hpl
  intro P G H vs ds Q R g r hf hR
  unfold gMin at hf
  split at hf
  · obtain ⟨v, u, rfl, r1, r2⟩ := val2 r
    cases r1; cases r2
    rename_i i j
    have e : (if j < i then j else i) = min i j := by rw [Int.min_def]; split <;> split <;> omega
    exact .inl ⟨_, _, rfl, by rw [e]; exact hR _ P G H _ .refl g .int hf⟩
  · obtain ⟨ns, rfl, hne, hf⟩ := hf
    obtain ⟨v, rfl, rv⟩ := val1 r
    cases rv with
    | lst h z r => rw [r.of_ints] at h; exact .inr ⟨_, ns, rfl, SqL.of (g.gx h rfl), List.length_pos_iff.mpr hne, fun m h1 h2 => hR _ P G H _ .refl g .int (hf m h1 h2)⟩
theorem de_max {x : Str} {p : Pos} (hc : X.calm = true) (hx : x = "max") (hg : Gl X x) (hm : X.mg x = none) (ha : DA κ X (e :: es) far)
    (he : starEach (e :: es) X.env = (false, eval e X.env) :: starEach es X.env := by rfl) (hpl : (backTo pos (starEach es X.env)).any (·.1) = false := by rfl) : DE κ X (.Call (.Name x p) (e :: es) [] pos) (fCl gMax far) := by
  subst hx
  refine de_callB ?_ (CallR.or (call_max2 hc) (cr_max hc)) hg hm (by decide +kernel) ha (by decide) (by decide) he hpl
  intro P G H vs ds Q R g r hf hR
  unfold gMax at hf
  split at hf
  · obtain ⟨v, u, rfl, r1, r2⟩ := val2 r
    cases r1; cases r2
    rename_i i j
    have e : (if j > i then j else i) = max i j := by rw [Int.max_def]; split <;> split <;> omega
    exact .inl ⟨_, _, rfl, by rw [e]; exact hR _ P G H _ .refl g .int hf⟩
  · obtain ⟨ns, rfl, hne, hf⟩ := hf
    obtain ⟨v, rfl, rv⟩ := val1 r
    cases rv with
    | lst h z r => rw [r.of_ints] at h; exact .inr ⟨_, ns, rfl, SqL.of (g.gx h rfl), List.length_pos_iff.mpr hne, fun m h1 h2 => hR _ P G H _ .refl g .int (hf m h1 h2)⟩
def gInt (ds : List D) (n : Nat) (Q : D → Nat → Prop) : Prop := match ds with
  | [.int i] => Q (.int i) n
  | [.bl b] => Q (.int (if b then 1 else 0)) n
  | _ => False
theorem de_intc {x : Str} {p : Pos} (hx : x = "int") (hg : Gl X x) (hm : X.mg x = none) (ha : DA κ X (e :: es) far)
    (he : starEach (e :: es) X.env = (false, eval e X.env) :: starEach es X.env := by rfl) (hpl : (backTo pos (starEach es X.env)).any (·.1) = false := by rfl) : DE κ X (.Call (.Name x p) (e :: es) [] pos) (fCl gInt far) := by
  subst hx
  refine de_callTy ?_ call_int1 hg hm (by decide +kernel) ha (by decide) (by decide) he hpl
  intro P G H vs ds Q R g r hf hR
  unfold gInt at hf
  split at hf
  · obtain ⟨v, rfl, rv⟩ := val1 r
    cases rv
    exact .inl ⟨_, rfl, hR _ P G H _ .refl g .int hf⟩
  · obtain ⟨v, rfl, rv⟩ := val1 r
    cases rv
    exact .inr ⟨_, rfl, hR _ P G H _ .refl g .int hf⟩
  · exact hf.elim
theorem call_listS (hc : X.calm = true) : CallR X (.type "list") (fun xs H Q => ∃ z : Str, xs = [.str z] ∧ z.length ≤ sizeLine ∧ ∀ l, H l = none → Q (.ref l) (upd H l (.lst (z.cps.toList.map fun c => V.str ⟨#[c]⟩)))) := by
  intro pins s σ H xs us Q I r h
  obtain ⟨z, rfl, hz, q⟩ := h
  obtain ⟨u, rfl, rx⟩ := vals1 r
  obtain ⟨t, rfl⟩ := rx
  refine call_list_str (I.ok.hd hc) z t (fun h' tk acc' c' kp e hit => ?_) hz
  have hv : Vals (z.cps.toList.map fun c => V.str ⟨#[c]⟩) acc'.toList := by
    refine vals_at (by rw [List.length_map, Array.length_toList, Array.length_toList]; exact hit.1.symm) fun j y v hy hv => ?_
    rw [Array.getElem?_toList] at hv
    obtain ⟨c, u, hcu, ev⟩ := hit.2 j v hv
    rw [List.getElem?_map, Array.getElem?_toList, hcu] at hy
    simp only [Option.map_some, Option.some.injEq] at hy
    rw [← hy]
    exact ⟨u, ev⟩
  exact ⟨.ref s.heap.objs.size, _, I.laid (t' := tk) kp (Nat.le_refl _) (show ObjOk X.prog X.w _ h' _ (.lst (z.cps.toList.map fun c => V.str ⟨#[c]⟩)) from ⟨by rw [List.length_map, Array.length_toList]; exact hz, acc'.toList, c', hv, by simpa using e⟩), rfl, q _ (I.hok.fresh (Nat.le_refl _))⟩
end
end DL
namespace DL
open PySem PySem.Spec PyProof.Rows L2
section
variable {κ : Kit} {X : Cx} {a b c e o : Expr} {es : List Expr} {fa fb fc f : FE} {far : FA} {pos : Pos} {t1 t2 : FT}
theorem reps_signs {G : Hp} {iv : IV} : ∀ {s : List Nat}, (∀ c ∈ s, c < 1114112) → Reps κ G iv (s.map fun c => V.str ⟨#[c]⟩) (s.map fun c => D.str [c])
  | [], _ => .nil
  | c :: s, h => .cons (.str ⟨by show 1 ≤ sizeLine; decide, fun d hd => by rw [List.mem_singleton.mp hd]; exact h c (List.mem_cons_self ..)⟩) (reps_signs fun d hd => h d (List.mem_cons_of_mem _ hd))
/-- list(x): a text's signs, a copy -/
def oList (ds : List D) (n : Nat) (Q : List D → Nat → Prop) : Prop := match ds with
  | [.str s] => Q (s.map fun c => .str [c]) n
  | [.lst xs] => Q xs n
  | [.tup xs] => Q xs n
  | _ => False
theorem do_list {x : Str} {p : Pos} (hc : X.calm = true) (hx : x = "list") (hg : Gl X x) (hm : X.mg x = none) (ha : DA κ X (e :: es) far)
    (he : starEach (e :: es) X.env = (false, eval e X.env) :: starEach es X.env := by rfl) (hpl : (backTo pos (starEach es X.env)).any (·.1) = false := by rfl) : DO κ X (.Call (.Name x p) (e :: es) [] pos) (oCl oList far) := by
  subst hx
  refine do_callTy ?_ (CallR.or (call_listS hc) call_list_of) hg hm (by decide +kernel) ha (by decide) (by decide) he hpl
  intro P G H vs ds Q R g r hf hR
  unfold oList at hf
  split at hf
  · obtain ⟨v, rfl, rv⟩ := val1 r
    cases rv with
    | str h =>
      refine .inl ⟨_, rfl, by rw [str_len]; exact h.1, fun l hl => ?_⟩
      rw [cpsL]
      exact hR l P G _ _ _ (Grow.new hl) (g.new hl) hl (g.gnone hl) (g.inone hl) upd_same (by rw [List.length_map]; exact h.1) (reps_signs h.2) hf
  · obtain ⟨v, rfl, rv⟩ := val1 r
    cases rv with
    | lst h z r => exact .inr ⟨_, _, rfl, .inl (SqL.of (g.gx h rfl)), fun l hl => hR l P G _ _ _ (Grow.new hl) (g.new hl) hl (g.gnone hl) (g.inone hl) upd_same z r hf⟩
  · obtain ⟨v, rfl, rv⟩ := val1 r
    cases rv with
    | tup h z r => exact .inr ⟨_, _, rfl, .inr (SqT.of (g.gx h rfl)), fun l hl => hR l P G _ _ _ (Grow.new hl) (g.new hl) hl (g.gnone hl) (g.inone hl) upd_same z r hf⟩
  · exact hf.elim
/-- sorted(xs): texts or ints, below 64 -/
@[simp] def oSorted (ds : List D) (n : Nat) (Q : List D → Nat → Prop) : Prop :=
  (∃ ss : List (List Nat), ds = [.lst (ss.map D.str)] ∧ ss.length < 64 ∧ ∀ ts : List (List Nat), ts.Perm ss → sortedS (ts.map fun s => (⟨s.toArray⟩ : Str)) = true → Q (ts.map D.str) n) ∨
  (∃ ns : List Int, ds = [.lst (ns.map D.int)] ∧ ns.length < 64 ∧ ∀ ms : List Int, ms.Perm ns → ms.Pairwise (· ≤ ·) → Q (ms.map D.int) n)
theorem reps_strs {G : Hp} {iv : IV} : ∀ {ss : List (List Nat)}, (∀ s ∈ ss, OkS s) → Reps κ G iv (ss.map fun s => V.str ⟨s.toArray⟩) (ss.map D.str)
  | [], _ => .nil
  | s :: ss, h => .cons (.str (h s (List.mem_cons_self ..))) (reps_strs fun t ht => h t (List.mem_cons_of_mem _ ht))
theorem do_sorted {x : Str} {p : Pos} (hx : x = "sorted") (hg : Gl X x) (hm : X.mg x = none) (ha : DA κ X (e :: es) far)
    (he : starEach (e :: es) X.env = (false, eval e X.env) :: starEach es X.env := by rfl) (hpl : (backTo pos (starEach es X.env)).any (·.1) = false := by rfl) : DO κ X (.Call (.Name x p) (e :: es) [] pos) (oCl oSorted far) := by
  subst hx
  refine do_callB ?_ (CallR.or cr_sortedS cr_sorted) hg hm (by decide +kernel) ha (by decide) (by decide) he hpl
  intro P G H vs ds Q R g r hf hR
  rcases hf with ⟨ss, rfl, hz, hf⟩ | ⟨ns, rfl, hz, hf⟩
  · obtain ⟨v, rfl, rv⟩ := val1 r
    cases rv with
    | lst h z r =>
      obtain ⟨e1, e2⟩ := r.of_strs
      subst e1
      refine .inl ⟨_, _, rfl, SqL.of (g.gx h rfl), by rw [List.length_map]; exact hz, fun ys p hp hs hn => ?_⟩
      -- the texts that come back
      obtain ⟨ts, et, ht⟩ : ∃ ts : List (List Nat), ys = ts.map (fun s => (⟨s.toArray⟩ : Str)) ∧ ts.Perm ss := by
        refine ⟨ys.map fun y => y.cps.toList, ?_, ?_⟩
        · rw [List.map_map]
          have : ((fun s : List Nat => (⟨s.toArray⟩ : Str)) ∘ fun y : Str => y.cps.toList) = id := by funext y; cases y; simp
          rw [this, List.map_id]
        · have h1 := hp.map (fun y : Str => y.cps.toList)
          rw [List.map_map] at h1
          have : ((fun y : Str => y.cps.toList) ∘ fun s : List Nat => (⟨s.toArray⟩ : Str)) = id := by funext y; simp
          rw [this, List.map_id] at h1
          exact h1
      subst et
      rw [List.map_map]
      exact hR p P G _ _ _ (Grow.new hn) (g.new hn) hn (g.gnone hn) (g.inone hn) upd_same (by rw [List.length_map, ht.length_eq]; exact small64 hz) (reps_strs fun s hs' => e2 s (ht.mem_iff.mp hs')) (hf ts ht hs)
  · obtain ⟨v, rfl, rv⟩ := val1 r
    cases rv with
    | lst h z r =>
      rw [r.of_ints] at h
      refine .inr ⟨_, ns, rfl, SqL.of (g.gx h rfl), hz, fun ms p hp hs hn => ?_⟩
      exact hR p P G _ _ _ (Grow.new hn) (g.new hn) hn (g.gnone hn) (g.inone hn) upd_same (by rw [List.length_map, hp.length_eq]; exact small64 hz) Reps.ints (hf ms hp hs)
abbrev rIxD : R2 := fun x y H Q => ∃ a v, x = .ref a ∧ DGet H a y (some v) ∧ Q v H
theorem ix_dict (hu : X.A.units + 1 < cLine) : IxR X rIxD := by
  intro value slice pins s σ H x y v u Q I rx ry h hs
  obtain ⟨p, z, rfl, hg, q⟩ := h
  obtain rfl : v = Value.ref p := rx
  exact PyProof.Rows.tail_any (dict_typeIs I hg) PySem.F.slot_dict_getitem.lookup (d_getItem hu I hg ry fun w' s3 I3 rw' => ⟨z, H, I3, rw', q⟩) hs
/-- x[y]: a list, a tuple, a text by an int; a dict by a key that is there -/
def gIx (x y : D) (n : Nat) (Q : D → Nat → Prop) : Prop := match x, y with
  | .lst xs, .int i => ∃ v, atI xs i = some v ∧ Q v n
  | .tup xs, .int i => ∃ v, atI xs i = some v ∧ Q v n
  | .str s, .int i => ∃ c, atI s i = some c ∧ Q (.str [c]) n
  | .dct ks vs, k => isKeyD k = true ∧ ∃ v, dGet ks vs k = some v ∧ Q v n
  | .dcu ks vs, k => dKind (.dcu ks vs) k = true ∧ ∃ v, dGet ks vs k = some v ∧ Q v n
  | _, _ => False
theorem atI_reps {G : Hp} {iv : IV} {vs : List V} {ds : List D} {i : Int} {d : D} (r : Reps κ G iv vs ds) (h : atI ds i = some d) : ∃ v, atI vs i = some v ∧ Rep κ G iv v d := by
  unfold atI at h ⊢
  rw [r.length]
  cases hi : ixN ds.length i with
  | none => rw [hi] at h; cases h
  | some k =>
    rw [hi] at h
    exact r.get h
theorem atI_mem {α : Type} {xs : List α} {i : Int} {x : α} (h : atI xs i = some x) : x ∈ xs := by
  unfold atI at h
  cases hi : ixN xs.length i with
  | none => rw [hi] at h; cases h
  | some k =>
    rw [hi] at h
    exact List.mem_of_getElem? h
theorem de_ix (hu : X.A.units + 1 < cLine) (ha : DE κ X a fa) (hb : DE κ X b fb) (hs : PlainIx b := by exact fun _ _ => rfl) : DE κ X (.Subscript a b pos) (f2 gIx fa fb) := by
  obtain ⟨ta, pa, qa⟩ := ha
  obtain ⟨tb, pb, qb⟩ := hb
  refine ⟨_, pe_ix (ix_seq.or (ix_dict hu)) pa pb hs, op_lift ?_ qa qb⟩
  intro P G H x y dx dy Q R g rx ry hf hR
  unfold gIx at hf
  split at hf
  · obtain ⟨v, h1, hf⟩ := hf
    cases ry
    cases rx with
    | lst h z r =>
      obtain ⟨u, h2, ru⟩ := atI_reps r h1
      exact .inl (.inl ⟨_, _, _, u, rfl, rfl, SqL.of (g.gx h rfl), h2, hR u P G H _ .refl g ru hf⟩)
  · obtain ⟨v, h1, hf⟩ := hf
    cases ry
    cases rx with
    | tup h z r =>
      obtain ⟨u, h2, ru⟩ := atI_reps r h1
      exact .inl (.inr (.inl ⟨_, _, _, u, rfl, rfl, SqT.of (g.gx h rfl), h2, hR u P G H _ .refl g ru hf⟩))
  · obtain ⟨c, h1, hf⟩ := hf
    cases ry
    cases rx with
    | str h => exact .inl (.inr (.inr ⟨_, _, c, rfl, rfl, by rw [str_len]; exact h.1, by rw [cpsL]; exact h1, hR _ P G H _ .refl g (.str (h.one (atI_mem h1))) hf⟩))
  · obtain ⟨hk, v, h1, hf⟩ := hf
    obtain ⟨p, e, q1, q2⟩ := rep_dget g.gh rx ry hk
    obtain ⟨u, h2, ru⟩ := q1 v h1
    exact .inr ⟨p, u, e, h2, hR u P G H _ .refl g ru hf⟩
  · obtain ⟨hk, v, h1, hf⟩ := hf
    obtain ⟨p, e, q1, q2⟩ := rep_dget g.gh rx ry hk
    obtain ⟨u, h2, ru⟩ := q1 v h1
    exact .inr ⟨p, u, e, h2, hR u P G H _ .refl g ru hf⟩
  · exact hf.elim
abbrev FO := DEnv → Nat → (Option Int → Nat → Prop) → Prop
def DP (κ : Kit) (X : Cx) (e : Option Expr) (f : FO) : Prop := ∃ t, PO X e t ∧ ∀ (P : Wd) (G H : Hp) (σ : L2.St) (env : DEnv) (Q : Option Int → Nat → Prop) (R : Option Int → Hp → Prop), Good κ P G H → EnvR κ G P.iv σ env → f env P.n Q →
  (∀ o P' G' H', Grow P G H P' G' H' → Good κ P' G' H' → Q o P'.n → R o H') → t σ H R
@[simp] def oNo : FO := fun _ n Q => Q none n
/-- it has to be a number -/
def gI (d : D) (m : Nat) (Q : Int → Nat → Prop) : Prop := ∃ i, d = .int i ∧ Q i m
@[simp] theorem gI_int {i : Int} {m : Nat} {Q : Int → Nat → Prop} : gI (.int i) m Q = Q i m := by
  refine propext ⟨?_, fun h => ⟨i, rfl, h⟩⟩
  rintro ⟨c, e, h⟩
  cases e
  exact h
@[simp] def oSo (f : FE) : FO := fun env n Q => f env n fun d m => gI d m fun i m => Q (some i) m
theorem dp_none : DP κ X none oNo := ⟨_, po_none, fun P G H σ env Q R g ev hf hR => hR none P G H .refl g hf⟩
theorem dp_some (h : DE κ X e f) : DP κ X (some e) (oSo f) := by
  obtain ⟨t, p, q⟩ := h
  refine ⟨_, po_some p, fun P G H σ env Q R g ev hf hR => q P G H σ env _ _ g ev hf fun v P' G' H' d gr g' r hq => ?_⟩
  obtain ⟨i, e, hq⟩ := hq
  subst e
  cases r
  exact ⟨i, rfl, hR (some i) P' G' H' gr g' hq⟩
/-- what a slice takes -/
def cutL {α : Type} (xs : List α) (lo hi : Option Int) : List α := (xs.drop (HT.sIx xs.length 0 lo)).take (HT.sIx xs.length xs.length hi - HT.sIx xs.length 0 lo)
@[simp] def fSlice (f : FE) (l h : FO) : FE := fun env n Q => f env n fun x n1 => l env n1 fun lo n2 => h env n2 fun hi n3 => match x with
  | .str s => Q (.str (cutL s lo hi)) n3
  | .tup xs => ¬ (HT.sIx xs.length 0 lo = 0 ∧ HT.sIx xs.length xs.length hi = xs.length) ∧ Q (.tup (cutL xs lo hi)) n3
  | _ => False
@[simp] def oSlice (f : FE) (l h : FO) : FA := fun env n Q => f env n fun x n1 => l env n1 fun lo n2 => h env n2 fun hi n3 => match x with
  | .lst xs => Q (cutL xs lo hi) n3
  | .scr ns => Q ((cutL ns lo hi).map D.int) n3
  | _ => False
theorem cutL_le {α : Type} (xs : List α) (lo hi : Option Int) : (cutL xs lo hi).length ≤ xs.length := by
  unfold cutL; rw [List.length_take, List.length_drop]; omega
theorem reps_cut {G : Hp} {iv : IV} {vs : List V} {ds : List D} (r : Reps κ G iv vs ds) (lo hi : Option Int) : Reps κ G iv (cutV vs lo hi) (cutL ds lo hi) := by
  unfold cutV cutL
  rw [r.length]
  exact (r.drop _).take _
theorem cut_map (ns : List Int) (lo hi : Option Int) : cutV (ns.map V.int) lo hi = (cutL ns lo hi).map V.int := by
  unfold cutV cutL
  rw [List.length_map, List.map_take, List.map_drop]
theorem OkS.cut {s : List Nat} (h : OkS s) (lo hi : Option Int) : OkS (cutL s lo hi) := (h.drop _).take _
theorem cutS_eq (s : List Nat) (lo hi : Option Int) : cutS ⟨s.toArray⟩ lo hi = ⟨(cutL s lo hi).toArray⟩ := by
  unfold cutS cutL
  rw [cpsL, str_len]
variable {lo hi : Option Expr} {fl fh : FO} {p2 : Pos}
def joinL (sep : List Nat) : List (List Nat) → List Nat
  | [] => []
  | [s] => s
  | s :: t :: r => s ++ sep ++ joinL sep (t :: r)
/-- it is a text -/
def isS (x : D) : Prop := ∃ s, x = .str s
@[simp] theorem isS_str {s : List Nat} : isS (.str s) = True := eq_true ⟨s, rfl⟩
@[simp] def fM1 (φ : D → D → Nat → (D → Nat → Prop) → Prop) (fa fb : FE) : FE := fun env n Q => fa env n fun x n1 => isS x ∧ fb env n1 fun y n2 => φ x y n2 Q
theorem m1_lift {r : V → List V → Hp → VK → Prop} {φ : D → D → Nat → (D → Nat → Prop) → Prop} {ta tb : TE} (hl : LiftR κ (fun x y => r x [y]) φ) (ha : RdE κ fa ta) (hb : RdE κ fb tb) : RdE κ (fM1 φ fa fb) (tM1 r ta tb) := fun P G H σ env Q R g ev hf hR => by
  refine ha P G H σ env _ _ g ev hf fun x P1 G1 H1 dx gr1 g1 rx hf1 => ?_
  obtain ⟨⟨s, e⟩, hf1⟩ := hf1
  subst e
  have hx : ∃ a, x = .str a := by cases rx; exact ⟨_, rfl⟩
  exact ⟨hx, hb P1 G1 H1 σ env _ _ g1 (ev.grow gr1) hf1 fun y P2 G2 H2 dy gr2 g2 ry hf2 => hl P2 G2 H2 x y _ dy Q R g2 (gr2.rep rx) ry hf2 (hR.grow (gr1.trans gr2))⟩
def gStarts (x y : D) (n : Nat) (Q : D → Nat → Prop) : Prop := match x, y with
  | .str s, .str t => Q (.bl (s.take t.length == t)) n
  | _, _ => False
def gJoin (x y : D) (n : Nat) (Q : D → Nat → Prop) : Prop := ∃ (sp : List Nat) (ss : List (List Nat)), x = .str sp ∧ (y = .lst (ss.map D.str) ∨ y = .tup (ss.map D.str)) ∧ (ss.map List.length).sum + ss.length * sp.length ≤ 16777216 ∧ Q (.str (joinL sp ss)) n
theorem join_eq (sp : List Nat) : ∀ ss : List (List Nat), Txt.join ⟨sp.toArray⟩ (ss.map fun s => (⟨s.toArray⟩ : Str)) = ⟨(joinL sp ss).toArray⟩ := by
  intro ss
  unfold Txt.join
  rw [PySem.StrLaws.glued_eq_join]
  induction ss with
  | nil => rfl
  | cons s ss ih =>
    cases ss with
    | nil => rfl
    | cons t r =>
      show (⟨s.toArray⟩ : Str) ++ ⟨sp.toArray⟩ ++ Str.join ⟨sp.toArray⟩ ((t :: r).map fun s => (⟨s.toArray⟩ : Str)) = _
      rw [ih, str_app, str_app]
      rfl
theorem joinL_len (sp : List Nat) : ∀ ss : List (List Nat), (joinL sp ss).length ≤ (ss.map List.length).sum + ss.length * sp.length
  | [] => Nat.zero_le _
  | [s] => by simp [joinL]
  | s :: t :: r => by
    have ih := joinL_len sp (t :: r)
    simp only [joinL, List.length_append, List.map_cons, List.sum_cons, List.length_cons] at ih ⊢
    rw [Nat.succ_mul]
    omega
theorem joinL_mem {sp : List Nat} {c : Nat} : ∀ {ss : List (List Nat)}, c ∈ joinL sp ss → c ∈ sp ∨ ∃ s ∈ ss, c ∈ s
  | [], h => by simp [joinL] at h
  | [s], h => .inr ⟨s, List.mem_singleton.mpr rfl, h⟩
  | s :: t :: r, h => by
    simp only [joinL, List.mem_append] at h
    rcases h with (h | h) | h
    · exact .inr ⟨s, List.mem_cons_self .., h⟩
    · exact .inl h
    · rcases joinL_mem h with h | ⟨u, hu, h⟩
      · exact .inl h
      · exact .inr ⟨u, List.mem_cons_of_mem _ hu, h⟩
theorem de_join {apos : Pos} (ho : DE κ X o fa) (he : DE κ X e fb) (hs : starEach [e] X.env = [(false, eval e X.env)] := by rfl) (hbase : attributeBase o "join" X.env (eval o X.env) = eval o X.env := by rfl) (hline : (apos.endLine == pos.line) = true := by rfl) :
    DE κ X (.Call (.Attribute o "join" apos) [e] [] pos) (fM1 gJoin fa fb) := by
  obtain ⟨ta, pa, qa⟩ := ho
  obtain ⟨tb, pb, qb⟩ := he
  refine ⟨_, pe_join pa pb hs hbase hline, m1_lift ?_ qa qb⟩
  intro P G H x y dx dy Q R g rx ry hf hR
  obtain ⟨sp, ss, e, ey, hz, hf⟩ := hf
  subst e
  have hl : sizeLine = 16777216 := sizeLine_eq
  cases rx with
  | str hsp =>
  have fin : ∀ us : List V, Reps κ G P.iv us (ss.map D.str) → us = (ss.map fun s => (⟨s.toArray⟩ : Str)).map V.str ∧ Rep κ G P.iv (.str ⟨(joinL sp ss).toArray⟩) (.str (joinL sp ss)) := fun us r => by
    obtain ⟨e1, e2⟩ := r.of_strs
    refine ⟨e1, .str ⟨Nat.le_trans (joinL_len sp ss) (by omega), fun c hc => ?_⟩⟩
    rcases joinL_mem hc with h | ⟨s, h1, h2⟩
    · exact hsp.2 c h
    · exact (e2 s h1).2 c h2
  have hz' : ((ss.map fun s => (⟨s.toArray⟩ : Str)).map (·.length)).sum + (ss.map fun s => (⟨s.toArray⟩ : Str)).length * (⟨sp.toArray⟩ : Str).length ≤ 16777216 := by
    rw [List.map_map, List.length_map, str_len]
    have : ((fun x : Str => x.length) ∘ fun s : List Nat => (⟨s.toArray⟩ : Str)) = List.length := by funext s; exact str_len s
    rw [this]; exact hz
  rcases ey with e | e
  · subst e
    cases ry with
    | lst h z r =>
      obtain ⟨e1, r1⟩ := fin _ r
      exact ⟨_, _, _, rfl, rfl, .inl (SqL.of (by rw [← e1]; exact g.gx h rfl)), hz', by rw [join_eq]; exact hR _ P G H _ .refl g r1 hf⟩
  · subst e
    cases ry with
    | tup h z r =>
      obtain ⟨e1, r1⟩ := fin _ r
      exact ⟨_, _, _, rfl, rfl, .inr (SqT.of (by rw [← e1]; exact g.gx h rfl)), hz', by rw [join_eq]; exact hR _ P G H _ .refl g r1 hf⟩
def gBits (x : D) (n : Nat) (Q : D → Nat → Prop) : Prop := match x with
  | .int i => Q (.int (Builtin.Int.intBits i : Nat)) n
  | _ => False
theorem de_bits {apos : Pos} (ho : DE κ X o fa) (hbase : attributeBase o "bit_length" X.env (eval o X.env) = eval o X.env := by rfl) (hline : (apos.endLine == pos.line) = true := by rfl) :
    DE κ X (.Call (.Attribute o "bit_length" apos) [] [] pos) (f1 gBits fa) := by
  obtain ⟨ta, pa, qa⟩ := ho
  refine ⟨_, pe_bits pa hbase hline, fun P G H σ env Q R g ev hf hR => qa P G H σ env _ _ g ev hf fun v P' G' H' d gr g' r hq => ?_⟩
  cases r <;> try (exact False.elim hq)
  exact ⟨_, rfl, hR _ P' G' H' _ gr g' .int hq⟩
@[simp] def aStar (f : FE) (r : FA) : FA := fun env n Q => f env n fun x n1 => ∃ xs, (x = .lst xs ∨ x = .tup xs) ∧ r env n1 fun ys n2 => Q (xs ++ ys) n2
end
end DL
namespace DL
open PySem PySem.Spec PyProof.Rows L2
/-- the frozen part grows -/
structure Ext (P : Wd) (G : Hp) (P' : Wd) (G' : Hp) : Prop where
  fz : ∀ a o, P.fz a = some o → P'.fz a = some o
  iv : ∀ a t, P.iv a = some t → P'.iv a = some t
  n : P.n ≤ P'.n
  g : ∀ a o, G a = some o → G' a = some o
theorem Grow.ext {P P1 : Wd} {G H G1 H1 : Hp} (gr : Grow P G H P1 G1 H1) : Ext P G P1 G1 := ⟨gr.fz, gr.iv, gr.n, gr.g⟩
theorem Ext.trans {P P1 P2 : Wd} {G G1 G2 : Hp} (a : Ext P G P1 G1) (b : Ext P1 G1 P2 G2) : Ext P G P2 G2 := ⟨fun x o h => b.fz x o (a.fz x o h), fun x o h => b.iv x o (a.iv x o h), Nat.le_trans a.n b.n, fun x o h => b.g x o (a.g x o h)⟩
theorem Ext.refl {P : Wd} {G : Hp} : Ext P G P G := ⟨fun _ _ h => h, fun _ _ h => h, Nat.le_refl _, fun _ _ h => h⟩
theorem Ext.reps {κ : Kit} {P P1 : Wd} {G G1 : Hp} {v : List V} {d : List D} (a : Ext P G P1 G1) (r : Reps κ G P.iv v d) : Reps κ G1 P1.iv v d := r.mono a.g a.iv
/-- an iterator that gives xs, whatever else grows -/
def IterD (κ : Kit) (J : It) (P : Wd) (G H : Hp) (xs : List D) : Prop := xs.length ≤ sizeLine ∧ ∀ (i : Nat) (P1 : Wd) (G1 H1 : Hp), Ext P G P1 G1 → Good κ P1 G1 H1 →
  (i < xs.length → J.go i H1 ∧ ∀ (v : V) (H2 : Hp), J.yld i H1 v H2 → ∃ G2 d, Grow P1 G1 H1 P1 G2 H2 ∧ Good κ P1 G2 H2 ∧ xs[i]? = some d ∧ Rep κ G2 P1.iv v d) ∧ (i = xs.length → J.stop i H1)
theorem IterD.grow {κ : Kit} {J : It} {P P1 : Wd} {G H G1 H1 : Hp} {xs : List D} (it : IterD κ J P G H xs) (gr : Grow P G H P1 G1 H1) : IterD κ J P1 G1 H1 xs := ⟨it.1, fun i P2 G2 H2 gr2 g2 => it.2 i P2 G2 H2 (gr.ext.trans gr2) g2⟩
abbrev LkI (κ : Kit) (P : Wd) (G H : Hp) (Q : List D → Nat → Prop) (R : It → Hp → Prop) : Prop := ∀ J P' G' H' xs, Grow P G H P' G' H' → Good κ P' G' H' → IterD κ J P' G' H' xs → Q xs P'.n → R J H'
abbrev RdI (κ : Kit) (f : FA) (w : TI) : Prop := ∀ (P : Wd) (G H : Hp) (σ : L2.St) (env : DEnv) (Q : List D → Nat → Prop) (R : It → Hp → Prop), Good κ P G H → EnvR κ G P.iv σ env → f env P.n Q → LkI κ P G H Q R → w σ H R
def DI0 (κ : Kit) (X : Cx) (tg iter : Expr) (f : FA) : Prop := ∃ w, PI X tg iter w ∧ RdI κ f w
/-- .. that gives xs while S holds -/
def IterS (κ : Kit) (S : Hp → Prop) (J : It) (P : Wd) (G : Hp) (xs : List D) : Prop := xs.length ≤ sizeLine ∧ ∀ (i : Nat) (P1 : Wd) (G1 H1 : Hp), Ext P G P1 G1 → Good κ P1 G1 H1 → S H1 →
  (i < xs.length → J.go i H1 ∧ ∀ (v : V) (H2 : Hp), J.yld i H1 v H2 → ∃ G2 d, Grow P1 G1 H1 P1 G2 H2 ∧ Good κ P1 G2 H2 ∧ xs[i]? = some d ∧ Rep κ G2 P1.iv v d) ∧ (i = xs.length → J.stop i H1)
theorem IterD.s {κ : Kit} {J : It} {P : Wd} {G H : Hp} {xs : List D} (it : IterD κ J P G H xs) : IterS κ (fun _ => True) J P G xs := ⟨it.1, fun i P1 G1 H1 e g _ => it.2 i P1 G1 H1 e g⟩
/-- walked as it is, or a dict that is locked for the walk -/
def RdJ (κ : Kit) (f : FA) (w : TI) : Prop := ∀ (P : Wd) (G H : Hp) (σ : L2.St) (env : DEnv) (Q : List D → Nat → Prop), Good κ P G H → EnvR κ G P.iv σ env → f env P.n Q → (∀ R : It → Hp → Prop, LkI κ P G H Q R → w σ H R) ∨
  ∃ (a : Addr) (u : HO), G a = some u ∧ isDk u = true ∧ ∀ (od : Obj) (H1 : Hp), H1 a = some (.frz od u) → Good κ P G H1 → ∀ R : It → Hp → Prop, (∀ J xs, IterS κ (fun H' => H' a = some (.frz od u)) J P G xs → Q xs P.n → R J H1) → w σ H1 R
def DI (κ : Kit) (X : Cx) (tg iter : Expr) (f : FA) : Prop := ∃ w, PI X tg iter w ∧ RdJ κ f w
theorem DI0.j {κ : Kit} {X : Cx} {tg iter : Expr} {f : FA} (h : DI0 κ X tg iter f) : DI κ X tg iter f := by
  obtain ⟨w, p, q⟩ := h
  exact ⟨w, p, fun P G H σ env Q g ev hf => .inl fun R hR => q P G H σ env Q R g ev hf hR⟩
/-- an expression, a statement that runs as it is or while a dict is locked -/
def tLk (t : TE) : TE := fun σ H Q => tLockE t σ H Q ∨ t σ H Q
theorem PE.lk {X : Cx} {e : Expr} {t : TE} (h : PE X e t) : PE X e (tLk t) := ⟨fun pins s σ H Q I hw => by
  rcases hw with hw | hw
  · exact (pe_lock h).run pins s σ H Q I hw
  · exact h.run pins s σ H Q I hw⟩
theorem PS.lk {X : Cx} {st : Stmt} {t : TE} {i : Nat} (h : PS X st (tAsg t (gName i))) : PS X st (tAsg (tLk t) (gName i)) := ⟨fun pins s σ H D I hw => by
  rcases hw with hw | hw
  · exact (ps_lock h).run pins s σ H D I hw
  · exact h.run pins s σ H D I hw⟩
theorem dk_mut {u : HO} (h : isDk u = true) : Mut (some u) := by cases u <;> first | trivial | exact absurd h (by simp [isDk])
section
variable {κ : Kit} {X : Cx} {a b c e o tg : Expr} {es : List Expr} {fa fb fc f : FE} {far : FA} {pos : Pos} {t1 t2 : FT}
theorem da_star {p : Pos} (ha : DE κ X e f) (hr : DA κ X es far) (hs : starEach (.Starred e p :: es) X.env = (true, eval e X.env) :: starEach es X.env := by rfl) : DA κ X (.Starred e p :: es) (aStar f far) := by
  obtain ⟨ta, pa, qa⟩ := ha
  obtain ⟨tb, pb, qb⟩ := hr
  refine ⟨_, StX.pa_star pa pb hs, fun P G H σ env Q R g ev hf hR => ?_⟩
  refine qa P G H σ env _ _ g ev hf fun x P1 G1 H1 dx gr1 g1 rx hf1 => ?_
  obtain ⟨xs, e, hf1⟩ := hf1
  rcases e with e | e
  · subst e
    cases rx with
    | lst h z r => exact ⟨_, _, rfl, .inr (SqL.of (g1.gx h rfl)), qb P1 G1 H1 σ env _ _ g1 (ev.grow gr1) hf1 fun ys P2 G2 H2 ds gr2 g2 rs hq => hR _ P2 G2 H2 _ (gr1.trans gr2) g2 ((gr2.reps r).append rs) hq⟩
  · subst e
    cases rx with
    | tup h z r => exact ⟨_, _, rfl, .inl (SqT.of (g1.gx h rfl)), qb P1 G1 H1 σ env _ _ g1 (ev.grow gr1) hf1 fun ys P2 G2 H2 ds gr2 g2 rs hq => hR _ P2 G2 H2 _ (gr1.trans gr2) g2 ((gr2.reps r).append rs) hq⟩
theorem PI.or {iter : Expr} {w1 w2 : TI} (h1 : PI X tg iter w1) (h2 : PI X tg iter w2) : PI X tg iter (fun σ H R => w1 σ H R ∨ w2 σ H R) := ⟨fun pins s σ H R I h => by
  rcases h with h | h
  · exact h1.run pins s σ H R I h
  · exact h2.run pins s σ H R I h⟩
theorem iter_list {K : PySem.W.Frag} {P : Wd} {G H : Hp} {a : Addr} {vs : List V} {xs : List D} (g : Good κ P G H) (h : G a = some (.lst vs)) (z : vs.length ≤ sizeLine) (r : Reps κ G P.iv vs xs) : IterD κ (Itl K a) P G H xs := by
  refine ⟨by rw [← r.length]; exact z, fun i P1 G1 H1 gr g1 => ⟨fun hi => ?_, fun hi => ?_⟩⟩
  · have h1 : H1 a = some (.lst vs) := g1.gx (gr.g _ _ h) rfl
    have r1 := gr.reps r
    obtain ⟨v, hv, rv⟩ := r1.get (List.getElem?_eq_getElem hi)
    refine ⟨⟨vs, v, SqL.of h1, hv⟩, fun u H2 hy => ?_⟩
    obtain ⟨e, hu⟩ := hy
    subst e
    have := hu vs (SqL.of h1)
    rw [hv] at this
    cases this
    exact ⟨G1, _, .refl, g1, List.getElem?_eq_getElem hi, rv⟩
  · have h1 : H1 a = some (.lst vs) := g1.gx (gr.g _ _ h) rfl
    exact ⟨vs, SqL.of h1, by rw [r.length]; omega⟩
theorem iter_tup {K : PySem.W.Frag} {P : Wd} {G H : Hp} {a : Addr} {vs : List V} {xs : List D} (g : Good κ P G H) (h : G a = some (.tup vs)) (z : vs.length ≤ sizeLine) (r : Reps κ G P.iv vs xs) : IterD κ (Itt K a) P G H xs := by
  refine ⟨by rw [← r.length]; exact z, fun i P1 G1 H1 gr g1 => ⟨fun hi => ?_, fun hi => ?_⟩⟩
  · have h1 : H1 a = some (.tup vs) := g1.gx (gr.g _ _ h) rfl
    have r1 := gr.reps r
    obtain ⟨v, hv, rv⟩ := r1.get (List.getElem?_eq_getElem hi)
    refine ⟨⟨vs, v, SqT.of h1, hv⟩, fun u H2 hy => ?_⟩
    obtain ⟨e, hu⟩ := hy
    subst e
    have := hu vs (SqT.of h1)
    rw [hv] at this
    cases this
    exact ⟨G1, _, .refl, g1, List.getElem?_eq_getElem hi, rv⟩
  · have h1 : H1 a = some (.tup vs) := g1.gx (gr.g _ _ h) rfl
    exact ⟨vs, SqT.of h1, by rw [r.length]; omega⟩
/-- over a list, a tuple, a text -/
def iAny (K : PySem.W.Frag) (te : TE) : TI := fun σ H R => te σ H fun v H1 => (∃ a, v = .ref a ∧ (∃ xs, SqL K H1 a xs) ∧ R (Itl K a) H1) ∨ (∃ a, v = .ref a ∧ (∃ xs, SqT K H1 a xs) ∧ R (Itt K a) H1) ∨ (∃ x, v = .str x ∧ R (Its x) H1)
theorem pi_any {l : Expr} {tl : TE} (hl : PE X l tl) : PI X tg l (iAny X.K tl) := by
  refine ⟨fun pins s σ H R I h => ?_⟩
  refine thn (hl.run pins s σ H _ I h) fun v s1 ⟨x, H1, I1, r1, q1⟩ => ?_
  rcases q1 with ⟨a, e, ⟨xs, hq⟩, q⟩ | ⟨a, e, ⟨xs, hq⟩, q⟩ | ⟨x, e, q⟩
  · subst e
    cases r1
    obtain ⟨its, rv, p, hz⟩ := I1.list hq
    refine wpAny_pyIter_list p.isList ?_
    refine ⟨s1.heap.objs.size, [s1.heap.objs.size], _, _, H1, rfl, I1.kept (t' := s1.toks) fun b o e => Heap.get?_push_of_some _ e, turn_list a _, ⟨_, Heap.get?_push_size _ rfl, rfl, rfl⟩, fun b hb => ?_, q⟩
    have e : b = s1.heap.objs.size := by simpa using hb
    subst e
    exact I1.fpOk (Nat.le_refl _) (I1.hok.fresh (Nat.le_refl _))
  · subst e
    cases r1
    obtain ⟨its, rv, p, hz⟩ := I1.tuple hq
    refine wpAny_pyIter_tuple (show s1.heap.IsTuple a its.toArray from p) ?_
    refine ⟨s1.heap.objs.size, [s1.heap.objs.size], _, _, H1, rfl, I1.kept (t' := s1.toks) fun b o e => Heap.get?_push_of_some _ e, turn_tuple a _, ⟨_, Heap.get?_push_size _ rfl, rfl, rfl⟩, fun b hb => ?_, q⟩
    have e : b = s1.heap.objs.size := by simpa using hb
    subst e
    exact I1.fpOk (Nat.le_refl _) (I1.hok.fresh (Nat.le_refl _))
  · subst e
    obtain ⟨t, rfl⟩ := r1
    cases ha : x.cps.all (· < 128)
    · exact wpAny_pyIter_wide ha (pi_one (tk := s1.toks) I1 _ (turn_str _ x t "str_iterator" (.inr rfl)) ⟨_, Heap.get?_push_size _ rfl, rfl, rfl⟩ q)
    · exact wpAny_pyIter_ascii ha (pi_one (tk := s1.toks) I1 _ (turn_str _ x t "str_ascii_iterator" (.inl rfl)) ⟨_, Heap.get?_push_size _ rfl, rfl, rfl⟩ q)
theorem iter_str {P : Wd} {G H : Hp} {s : List Nat} (h : OkS s) : IterD κ (Its ⟨s.toArray⟩) P G H (s.map fun c => .str [c]) := by
  refine ⟨by rw [List.length_map]; exact h.1, fun i P1 G1 H1 gr g1 => ⟨fun hi => ?_, fun hi => ?_⟩⟩
  · rw [List.length_map] at hi
    refine ⟨by show i < s.toArray.size; simpa using hi, fun u H2 hy => ?_⟩
    obtain ⟨e, c, hc, eu⟩ := hy
    subst e eu
    have hc' : s[i]? = some c := by simpa using hc
    exact ⟨G1, .str [c], .refl, g1, by rw [List.getElem?_map, hc']; rfl, .str (h.one (List.mem_of_getElem? hc'))⟩
  · rw [List.length_map] at hi
    show s.toArray.size ≤ i
    rw [List.size_toArray]; omega
def gSeq (x : D) (m : Nat) (Q : List D → Nat → Prop) : Prop := match x with
  | .lst xs => Q xs m
  | .tup xs => Q xs m
  | .str s => Q (s.map fun c => .str [c]) m
  | _ => False
@[simp] def iSeq (f : FE) : FA := fun env n Q => f env n fun x m => gSeq x m Q
theorem di_seq (ha : DE κ X e f) : DI0 κ X tg e (iSeq f) := by
  obtain ⟨ta, pa, qa⟩ := ha
  refine ⟨_, pi_any pa, fun P G H σ env Q R g ev hf hR => ?_⟩
  refine qa P G H σ env _ _ g ev hf fun v P1 G1 H1 d gr g1 r hq => ?_
  unfold gSeq at hq
  split at hq
  · cases r with
    | lst h z r => exact .inl ⟨_, rfl, ⟨_, SqL.of (g1.gx h rfl)⟩, hR _ P1 G1 H1 _ gr g1 (iter_list g1 h z r) hq⟩
  · cases r with
    | tup h z r => exact .inr (.inl ⟨_, rfl, ⟨_, SqT.of (g1.gx h rfl)⟩, hR _ P1 G1 H1 _ gr g1 (iter_tup g1 h z r) hq⟩)
  · cases r with
    | str h => exact .inr (.inr ⟨_, rfl, hR _ P1 G1 H1 _ gr g1 (iter_str h) hq⟩)
  · exact hq.elim
/-- a row of whole numbers -/
def ups (lo : Int) (n : Nat) : List D := (List.range n).map fun i => .int (lo + (i : Nat))
theorem iter_rng {P : Wd} {G H : Hp} {lo : Int} {n : Nat} (hn : n ≤ sizeLine) : IterD κ (Itr lo n) P G H (ups lo n) := by
  have hl : (ups lo n).length = n := by unfold ups; rw [List.length_map, List.length_range]
  refine ⟨by rw [hl]; exact hn, fun i P1 G1 H1 gr g1 => ⟨fun hi => ?_, fun hi => ?_⟩⟩
  · rw [hl] at hi
    refine ⟨hi, fun u H2 hy => ?_⟩
    obtain ⟨e, eu⟩ := hy
    subst e eu
    exact ⟨G1, _, .refl, g1, by unfold ups; rw [List.getElem?_map, List.getElem?_range hi]; rfl, .int⟩
  · rw [hl] at hi
    show n ≤ i
    omega
/-- over range(..): one bound, two, downwards -/
def gRange1 (ds : List D) (m : Nat) (Q : List D → Nat → Prop) : Prop := match ds with
  | [.int j] => (j ≤ 16777216 ∧ -(2 ^ 61) < j) ∧ Q (ups 0 j.toNat) m
  | _ => False
def gRange2 (ds : List D) (m : Nat) (Q : List D → Nat → Prop) : Prop := match ds with
  | [.int i, .int j] => (j - i ≤ 16777216 ∧ -(2 ^ 61) < i ∧ i < 2 ^ 61 ∧ -(2 ^ 61) < j) ∧ Q (ups i (j - i).toNat) m
  | _ => False
@[simp] def iRange1 (fa : FA) : FA := fun env n Q => fa env n fun ds m => gRange1 ds m Q
@[simp] def iRange2 (fa : FA) : FA := fun env n Q => fa env n fun ds m => gRange2 ds m Q
theorem di_range1 {p : Pos} (hg : Gl X "range") (hm : X.mg "range" = none) (ha : DA κ X [a] far) (hs : starEach [a] X.env = [(false, eval a X.env)] := by rfl) : DI0 κ X tg (.Call (.Name "range" p) [a] [] pos) (iRange1 far) := by
  obtain ⟨ta, pa, qa⟩ := ha
  refine ⟨_, pi_range1 hg hm pa hs, fun P G H σ env Q R g ev hf hR => ?_⟩
  refine qa P G H σ env _ _ g ev hf fun vs P1 G1 H1 ds gr g1 r hq => ?_
  have hl : sizeLine = 16777216 := sizeLine_eq
  unfold gRange1 at hq
  split at hq
  · obtain ⟨hj, hq⟩ := hq
    obtain ⟨v, rfl, rv⟩ := val1 r
    cases rv
    exact ⟨_, rfl, by omega, by omega, hR _ P1 G1 H1 _ gr g1 (iter_rng (by omega)) hq⟩
  · exact hq.elim
theorem di_range2 {p : Pos} (hg : Gl X "range") (hm : X.mg "range" = none) (ha : DA κ X [a, b] far) (hs : starEach [a, b] X.env = [(false, eval a X.env), (false, eval b X.env)] := by rfl) (hs2 : starEach [b] X.env = [(false, eval b X.env)] := by rfl) : DI0 κ X tg (.Call (.Name "range" p) [a, b] [] pos) (iRange2 far) := by
  obtain ⟨ta, pa, qa⟩ := ha
  refine ⟨_, pi_range2 hg hm pa hs hs2, fun P G H σ env Q R g ev hf hR => ?_⟩
  refine qa P G H σ env _ _ g ev hf fun vs P1 G1 H1 ds gr g1 r hq => ?_
  have hl : sizeLine = 16777216 := sizeLine_eq
  unfold gRange2 at hq
  split at hq
  · obtain ⟨hj, hq⟩ := hq
    obtain ⟨v, u, rfl, rv, ru⟩ := val2 r
    cases rv; cases ru
    exact ⟨_, _, rfl, by omega, hR _ P1 G1 H1 _ gr g1 (iter_rng (by omega)) hq⟩
  · exact hq.elim
/-- enumerate(xs) -/
def enumD : Nat → List D → List D
  | _, [] => []
  | k, x :: xs => .tup [.int (k : Nat), x] :: enumD (k + 1) xs
def gEnumD (ds : List D) (m : Nat) (Q : List D → Nat → Prop) : Prop := match ds with
  | [.lst xs] => Q (enumD 0 xs) m
  | _ => False
@[simp] def iEnumD (fa : FA) : FA := fun env n Q => fa env n fun ds m => gEnumD ds m Q
theorem new_tup {P1 : Wd} {G1 H1 : Hp} {T : Addr} {us : List V} {ds : List D} (g1 : Good κ P1 G1 H1) (hT : H1 T = none) (z : us.length ≤ sizeLine) (r : Reps κ G1 P1.iv us ds) :
    Grow P1 G1 H1 P1 (upd G1 T (.tup us)) (upd H1 T (.tup us)) ∧ Good κ P1 (upd G1 T (.tup us)) (upd H1 T (.tup us)) ∧ Rep κ (upd G1 T (.tup us)) P1.iv (.ref T) (.tup ds) :=
  ⟨(Grow.new hT).frz hT (g1.gnone hT), (g1.new hT).frz (g1.gnone hT) (g1.inone hT) upd_same, .tup upd_same z (reps_frz (g1.gnone hT) r)⟩
/-- zip(xs, ys) -/
def zipD : List D → List D → List D
  | x :: xs, y :: ys => .tup [x, y] :: zipD xs ys
  | _, _ => []
theorem zipD_len : ∀ xs ys : List D, (zipD xs ys).length = min xs.length ys.length
  | [], _ => by simp [zipD]
  | _ :: _, [] => by simp [zipD]
  | _ :: xs, _ :: ys => by simp only [zipD, List.length_cons, zipD_len]; omega
theorem zipD_get : ∀ (xs ys : List D) (i : Nat) (x y : D), xs[i]? = some x → ys[i]? = some y → (zipD xs ys)[i]? = some (.tup [x, y])
  | [], _, _, _, _, h, _ => by simp at h
  | _ :: _, [], _, _, _, _, h => by simp at h
  | x :: xs, y :: ys, 0, a, b, h, h' => by simp at h h'; subst h h'; rfl
  | x :: xs, y :: ys, i + 1, a, b, h, h' => by simpa [zipD] using zipD_get xs ys i a b (by simpa using h) (by simpa using h')
def gZipD (ds : List D) (m : Nat) (Q : List D → Nat → Prop) : Prop := match ds with
  | [.lst xs, .lst ys] => Q (zipD xs ys) m
  | [.tup xs, .tup ys] => Q (zipD xs ys) m
  | _ => False
@[simp] def iZipD (fa : FA) : FA := fun env n Q => fa env n fun ds m => gZipD ds m Q
theorem iter_zip {K : PySem.W.Frag} {P : Wd} {G H : Hp} {a b : Addr} {vs us : List V} {xs ys : List D} (g : Good κ P G H) (h : G a = some (.lst vs)) (h' : G b = some (.lst us)) (z : vs.length ≤ sizeLine) (r : Reps κ G P.iv vs xs) (r' : Reps κ G P.iv us ys) : IterD κ (Itz K a b) P G H (zipD xs ys) := by
  refine ⟨by rw [zipD_len, ← r.length]; exact Nat.le_trans (Nat.min_le_left _ _) z, fun i P1 G1 H1 gr g1 => ⟨fun hi => ?_, fun hi => ?_⟩⟩
  · rw [zipD_len] at hi
    have h1 : H1 a = some (.lst vs) := g1.gx (gr.g _ _ h) rfl
    have h2 : H1 b = some (.lst us) := g1.gx (gr.g _ _ h') rfl
    have hi1 : i < xs.length := by omega
    have hi2 : i < ys.length := by omega
    obtain ⟨v, hv, rv⟩ := (gr.reps r).get (List.getElem?_eq_getElem hi1)
    obtain ⟨u, hu, ru⟩ := (gr.reps r').get (List.getElem?_eq_getElem hi2)
    refine ⟨⟨vs, us, v, u, SqL.of h1, SqL.of h2, hv, hu⟩, fun w H2 hy => ?_⟩
    obtain ⟨T, x, y, e, hT, eH, hx, hy⟩ := hy
    subst e eH
    have e1 := hx vs (SqL.of h1)
    have e2 := hy us (SqL.of h2)
    rw [hv] at e1; cases e1
    rw [hu] at e2; cases e2
    obtain ⟨q1, q2, q3⟩ := new_tup (κ := κ) (us := [v, u]) (ds := [xs[i], ys[i]]) g1 hT (by show 2 ≤ sizeLine; decide) (.cons rv (.cons ru .nil))
    exact ⟨_, _, q1, q2, zipD_get xs ys i _ _ (List.getElem?_eq_getElem hi1) (List.getElem?_eq_getElem hi2), q3⟩
  · rw [zipD_len] at hi
    have h1 : H1 a = some (.lst vs) := g1.gx (gr.g _ _ h) rfl
    have h2 : H1 b = some (.lst us) := g1.gx (gr.g _ _ h') rfl
    exact ⟨vs, us, SqL.of h1, SqL.of h2, by rw [r.length, r'.length]; omega⟩
theorem iter_zipT {K : PySem.W.Frag} {P : Wd} {G H : Hp} {a b : Addr} {vs us : List V} {xs ys : List D} (g : Good κ P G H) (h : G a = some (.tup vs)) (h' : G b = some (.tup us)) (z : vs.length ≤ sizeLine) (r : Reps κ G P.iv vs xs) (r' : Reps κ G P.iv us ys) : IterD κ (RZ.ItzT K a b) P G H (zipD xs ys) := by
  refine ⟨by rw [zipD_len, ← r.length]; exact Nat.le_trans (Nat.min_le_left _ _) z, fun i P1 G1 H1 gr g1 => ⟨fun hi => ?_, fun hi => ?_⟩⟩
  · rw [zipD_len] at hi
    have h1 : H1 a = some (.tup vs) := g1.gx (gr.g _ _ h) rfl
    have h2 : H1 b = some (.tup us) := g1.gx (gr.g _ _ h') rfl
    have hi1 : i < xs.length := by omega
    have hi2 : i < ys.length := by omega
    obtain ⟨v, hv, rv⟩ := (gr.reps r).get (List.getElem?_eq_getElem hi1)
    obtain ⟨u, hu, ru⟩ := (gr.reps r').get (List.getElem?_eq_getElem hi2)
    refine ⟨⟨vs, us, v, u, SqT.of h1, SqT.of h2, hv, hu⟩, fun w H2 hy => ?_⟩
    obtain ⟨T, x, y, e, hT, eH, hx, hy⟩ := hy
    subst e eH
    have e1 := hx vs (SqT.of h1)
    have e2 := hy us (SqT.of h2)
    rw [hv] at e1; cases e1
    rw [hu] at e2; cases e2
    obtain ⟨q1, q2, q3⟩ := new_tup (κ := κ) (us := [v, u]) (ds := [xs[i], ys[i]]) g1 hT (by show 2 ≤ sizeLine; decide) (.cons rv (.cons ru .nil))
    exact ⟨_, _, q1, q2, zipD_get xs ys i _ _ (List.getElem?_eq_getElem hi1) (List.getElem?_eq_getElem hi2), q3⟩
  · rw [zipD_len] at hi
    have h1 : H1 a = some (.tup vs) := g1.gx (gr.g _ _ h) rfl
    have h2 : H1 b = some (.tup us) := g1.gx (gr.g _ _ h') rfl
    exact ⟨vs, us, SqT.of h1, SqT.of h2, by rw [r.length, r'.length]; omega⟩
theorem di_zip {p tpos : Pos} {elts : List Expr} {kk : Nat} (hg : Gl X "zip") (hm : X.mg "zip" = none) (ha : DA κ X [a, b] far) (hs : starEach [a, b] X.env = (false, eval a X.env) :: starEach [b] X.env := by rfl) (hpl : (backTo pos (starEach [b] X.env)).any (·.1) = false := by rfl) :
    DI0 κ X (.Tuple elts kk tpos) (.Call (.Name "zip" p) [a, b] [] pos) (iZipD far) := by
  obtain ⟨ta, pa, qa⟩ := ha
  refine ⟨_, RZ.pi_zipA hg hm pa hs hpl, fun P G H σ env Q R g ev hf hR => ?_⟩
  refine qa P G H σ env _ _ g ev hf fun vs P1 G1 H1 ds gr g1 r hq => ?_
  unfold gZipD at hq
  split at hq
  · obtain ⟨v, u, rfl, rv, ru⟩ := val2 r
    cases rv with
    | lst h z rx =>
      cases ru with
      | lst h' z' ry => exact ⟨_, _, _, _, rfl, .inl ⟨SqL.of (g1.gx h rfl), SqL.of (g1.gx h' rfl), hR _ P1 G1 H1 _ gr g1 (iter_zip g1 h h' z rx ry) hq⟩⟩
  · obtain ⟨v, u, rfl, rv, ru⟩ := val2 r
    cases rv with
    | tup h z rx =>
      cases ru with
      | tup h' z' ry => exact ⟨_, _, _, _, rfl, .inr ⟨SqT.of (g1.gx h rfl), SqT.of (g1.gx h' rfl), hR _ P1 G1 H1 _ gr g1 (iter_zipT g1 h h' z rx ry) hq⟩⟩
  · exact hq.elim
abbrev FG := D → DEnv → (DEnv → Prop) → Prop
def LiftG (κ : Kit) (g : TG) (sl : List Nat) (φ : FG) : Prop := ∀ (P : Wd) (G H : Hp) (v : V) (d : D) (σ : L2.St) (env : DEnv) (Q : DEnv → Prop) (R : L2.St → Hp → Prop), Good κ P G H → EnvR κ G P.iv σ env → Rep κ G P.iv v d → φ d env Q →
  (∀ σ' env', EnvR κ G P.iv σ' env' → (∀ vs : List Nat, (∀ i ∈ sl, i ∈ vs) → wipe σ' vs = wipe σ vs) → Q env' → R σ' H) → g v σ H R
abbrev FGs := List D → DEnv → (DEnv → Prop) → Prop
def LiftGs (κ : Kit) (g : TGs) (sl : List Nat) (φ : FGs) : Prop := ∀ (P : Wd) (G H : Hp) (v : List V) (d : List D) (σ : L2.St) (env : DEnv) (Q : DEnv → Prop) (R : L2.St → Hp → Prop), Good κ P G H → EnvR κ G P.iv σ env → Reps κ G P.iv v d → φ d env Q →
  (∀ σ' env', EnvR κ G P.iv σ' env' → (∀ vs : List Nat, (∀ i ∈ sl, i ∈ vs) → wipe σ' vs = wipe σ vs) → Q env' → R σ' H) → g v σ H R
theorem wipe_set {σ : L2.St} {i : Nat} {x : Option V} : ∀ vs : List Nat, wipe (σ.set i x) vs = if i ∈ vs then wipe σ vs else (wipe σ vs).set i x
  | [] => by simp [wipe]
  | v :: vs => by
    unfold wipe
    rw [wipe_set vs]
    by_cases h1 : i ∈ vs
    · rw [if_pos h1, if_pos (List.mem_cons_of_mem _ h1)]
    · rw [if_neg h1]
      by_cases h2 : i = v
      · subst h2
        rw [if_pos (List.mem_cons_self ..), List.set_set]
      · rw [if_neg (by simp [h1, h2]), List.set_comm _ _ h2]
theorem wipe_wipe (σ : L2.St) (vs : List Nat) : wipe (wipe σ vs) vs = wipe σ vs := by
  have key : ∀ us vs : List Nat, (∀ i ∈ us, i ∈ vs) → wipe (wipe σ us) vs = wipe σ vs := by
    intro us
    induction us with
    | nil => intro vs _; rfl
    | cons u us ih =>
      intro vs h
      rw [show wipe σ (u :: us) = (wipe σ us).set u none from rfl, wipe_set, if_pos (h u (List.mem_cons_self ..))]
      exact ih vs fun i hi => h i (List.mem_cons_of_mem _ hi)
  exact key vs vs fun _ h => h
theorem wipe_in {σ : L2.St} {i : Nat} {x : Option V} {vs : List Nat} (h : i ∈ vs) : wipe (σ.set i x) vs = wipe σ vs := by rw [wipe_set, if_pos h]
@[simp] def gN (i : Nat) : FG := fun d env Q => Q (env.set i (some d))
theorem lg_name (i : Nat) : LiftG κ (gName i) [i] (gN i) := fun P G H v d σ env Q R g ev r hf hR => hR _ _ (ev.set r) (fun vs h => wipe_in (h i (List.mem_singleton.mpr rfl))) hf
def gsNil : FGs := fun ds env Q => match ds with
  | [] => Q env
  | _ => False
def gsCons (φ : FG) (ψ : FGs) : FGs := fun ds env Q => match ds with
  | d :: r => φ d env fun env' => ψ r env' Q
  | [] => False
theorem lgs_nil : LiftGs κ gNil [] gsNil := fun P G H v d σ env Q R g ev r hf hR => by
  cases r with
  | nil => exact ⟨rfl, hR _ _ ev (fun _ _ => rfl) hf⟩
  | cons r t => exact False.elim hf
theorem lgs_cons {g : TG} {gs : TGs} {s1 s2 : List Nat} {φ : FG} {ψ : FGs} (h1 : LiftG κ g s1 φ) (h2 : LiftGs κ gs s2 ψ) : LiftGs κ (gCons g gs) (s1 ++ s2) (gsCons φ ψ) := fun P G H v d σ env Q R g ev r hf hR => by
  cases r with
  | nil => exact False.elim hf
  | @cons v0 d0 vs0 ds r t =>
    refine ⟨_, _, rfl, h1 P G H _ d0 σ env _ _ g ev r hf fun σ1 env1 ev1 w1 hf1 => ?_⟩
    exact h2 P G H _ ds σ1 env1 Q R g ev1 t hf1 fun σ2 env2 ev2 w2 hq => hR σ2 env2 ev2 (fun vs hvs => (w2 vs fun i hi => hvs i (List.mem_append_right _ hi)).trans (w1 vs fun i hi => hvs i (List.mem_append_left _ hi))) hq
def gT (n : Nat) (ψ : FGs) : FG := fun d env Q => match d with
  | .tup ds => ds.length = n ∧ ψ ds env Q
  | _ => False
theorem lg_tup {K : PySem.W.Frag} {n : Nat} {gs : TGs} {sl : List Nat} {ψ : FGs} (h : LiftGs κ gs sl ψ) : LiftG κ (gTup K n gs) sl (gT n ψ) := fun P G H v d σ env Q R g ev r hf hR => by
  unfold gT at hf
  split at hf
  · obtain ⟨hn, hf⟩ := hf
    cases r with
    | tup ht z r => exact ⟨_, _, rfl, SqT.of (g.gx ht rfl), by rw [r.length]; exact hn, h P G H _ _ σ env Q R g ev r hf hR⟩
  · exact hf.elim
/-- a target of the text and its data -/
def DG (κ : Kit) (X : Cx) (tg : Expr) (sl : List Nat) (φ : FG) : Prop := ∃ g, PG X tg g ∧ LiftG κ g sl φ
def DGs (κ : Kit) (X : Cx) (tgs : List Expr) (sl : List Nat) (ψ : FGs) : Prop := ∃ g, PGs X tgs g ∧ LiftGs κ g sl ψ
theorem dg_name (i : Nat) {x : Str} (hN : X.N.Nodup) (hi : X.N[i]? = some x) (hx : Loc X.env.scope x) (hf : X.fn x = true ∨ X.env.scope.names.lookup x = some .local := by first | exact .inl rfl | exact .inr rfl) : DG κ X (.Name x pos) [i] (gN i) :=
  ⟨_, pg_name hN hi hx hf, lg_name i⟩
theorem dgs_nil : DGs κ X [] [] gsNil := ⟨_, pgs_nil, lgs_nil⟩
theorem dgs_cons {s1 s2 : List Nat} {φ : FG} {ψ : FGs} (h1 : DG κ X e s1 φ) (h2 : DGs κ X es s2 ψ) (hs : (assignEach (e :: es) X.env).map (·.2) = assign e X.env :: (assignEach es X.env).map (·.2) := by rfl) : DGs κ X (e :: es) (s1 ++ s2) (gsCons φ ψ) := by
  obtain ⟨g, p, q⟩ := h1
  obtain ⟨gs, ps, qs⟩ := h2
  exact ⟨_, pgs_cons p ps hs, lgs_cons q qs⟩
theorem dg_tup {k n : Nat} {sl : List Nat} {ψ : FGs} (hc : X.calm = true) (h : DGs κ X es sl ψ) (hn : (assignEach es X.env).length = n := by rfl) (hst : (assignEach es X.env).findIdx? (·.1) = none := by rfl) : DG κ X (.Tuple es k pos) sl (gT n ψ) := by
  obtain ⟨gs, ps, qs⟩ := h
  exact ⟨_, pg_tup hc ps hn hst, lg_tup qs⟩
@[simp] def wipeE (env : DEnv) : List Nat → DEnv
  | [] => env
  | v :: vs => (wipeE env vs).set v none
theorem EnvR.wipe {G : Hp} {iv : IV} {σ : L2.St} {env : DEnv} (ev : EnvR κ G iv σ env) : ∀ vs : List Nat, EnvR κ G iv (L2.wipe σ vs) (wipeE env vs)
  | [] => ev
  | v :: vs => (EnvR.wipe ev vs).setN
/-- the tests of a clause -/
def DTs (κ : Kit) (X : Cx) (ifs : List Expr) (f : FT) : Prop := ∃ t, PTs X ifs t ∧ RdT κ f t
@[simp] def tYesD : FT := fun _ n Q => Q true n
theorem dts_nil : DTs κ X [] tYesD := ⟨_, pts_nil, fun P G H σ env Q R g ev hf hR => hR true P G H .refl g hf⟩
theorem dts_one (h : DT κ X c t1) : DTs κ X [c] t1 := by
  obtain ⟨t, p, q⟩ := h
  exact ⟨_, pts_one p, q⟩
@[simp] def goD (tg : FG) (tt : FT) (te : FE) (env : DEnv) : List D → Nat → (List D → Nat → Prop) → Prop
  | [], n, Q => Q [] n
  | x :: xs, n, Q => tg x env fun env' => tt env' n fun b n1 => if b = true then te env' n1 fun y n2 => goD tg tt te env xs n2 fun ys n3 => Q (y :: ys) n3 else goD tg tt te env xs n1 Q
@[simp] def oComp (it : FA) (tg : FG) (tt : FT) (te : FE) (vs : List Nat) : FA := fun env n Q => it env n fun xs n1 => goD tg tt te (wipeE env vs) xs n1 Q
theorem lc_body {J : It} {S : Hp → Prop} {g : TG} {tt : TT} {te : TE} {vs sl : List Nat} {φ : FG} {P : Wd} {G H : Hp} {σ : L2.St} {env : DEnv} {Q : List D → Nat → Prop} {R : VK} {xs : List D} (g0 : Good κ P G H) (ev : EnvR κ G P.iv σ env) (it : IterS κ S J P G xs) (hS : ∀ P' G' H', Grow P G H P' G' H' → S H')
    (hg : LiftG κ g sl φ) (ht : RdT κ t1 tt) (he : RdE κ f te) (hsl : ∀ i ∈ sl, i ∈ vs) (hq : goD φ t1 f (wipeE env vs) xs P.n Q) (hR : LkO κ P G H Q R) :
    tLc (fun _ H R => R J H) g tt te vs σ H R := by
  intro Dl hD
  have hzl := it.1
  refine ⟨fun i m H' => ∃ P' G' acc accD, Grow P G H P' G' H' ∧ Good κ P' G' H' ∧ G' Dl = none ∧ P'.iv Dl = none ∧ H' Dl = some (.lst acc) ∧ Reps κ G' P'.iv acc accD ∧ acc.length ≤ i ∧ i ≤ xs.length ∧ m = xs.length - i ∧
    goD φ t1 f (wipeE env vs) (xs.drop i) P'.n (fun ys k => Q (accD ++ ys) k), ⟨xs.length, P, G, [], [], Grow.new hD, g0.new hD, g0.gnone hD, g0.inone hD, upd_same, .nil, Nat.le_refl _, Nat.zero_le _, rfl, hq⟩, ?_⟩
  rintro i m H' ⟨P', G', acc, accD, gr, g', hgD, hiD, hhD, ra, hle, hix, rfl, hgo⟩
  have evb := ev.grow gr
  by_cases hlt : i < xs.length
  · obtain ⟨go, yl⟩ := (it.2 i P' G' H' gr.ext g' (hS _ _ _ gr)).1 hlt
    refine .inr ⟨go, fun H2 => ∃ P2 G2 acc2 accD2, Grow P G H P2 G2 H2 ∧ Good κ P2 G2 H2 ∧ G2 Dl = none ∧ P2.iv Dl = none ∧ H2 Dl = some (.lst acc2) ∧ Reps κ G2 P2.iv acc2 accD2 ∧ acc2.length ≤ i + 1 ∧
      goD φ t1 f (wipeE env vs) (xs.drop (i + 1)) P2.n (fun ys k => Q (accD2 ++ ys) k), fun H2 hN => ?_, fun v H2 hy => ?_⟩
    · obtain ⟨P2, G2, acc2, accD2, q1, q2, q3, q4, q5, q6, q7, q8⟩ := hN
      exact ⟨xs.length - (i + 1), by omega, P2, G2, acc2, accD2, q1, q2, q3, q4, q5, q6, q7, hlt, rfl, q8⟩
    · obtain ⟨G2, d, gr2, g2, hxd, rd⟩ := yl v H2 hy
      have hdrop : xs.drop i = d :: xs.drop (i + 1) := by
        rw [List.drop_eq_getElem_cons hlt]
        rw [List.getElem?_eq_getElem hlt] at hxd
        cases hxd; rfl
      rw [hdrop] at hgo
      have evw : EnvR κ G2 P'.iv (L2.wipe σ vs) (wipeE env vs) := (evb.grow gr2).wipe vs
      have hH2D : H2 Dl = some (.lst acc) := gr2.h Dl _ hhD hiD
      have hG2D : G2 Dl = none := by rw [gr2.same hhD]; exact hgD
      refine hg P' G2 H2 v d (L2.wipe σ vs) (wipeE env vs) _ _ g2 evw rd hgo fun σ' env' ev' hw hf1 => ?_
      refine ⟨by rw [hw vs hsl]; exact wipe_wipe σ vs, ?_⟩
      refine ht P' G2 H2 σ' env' _ _ g2 ev' hf1 fun b P3 G3 H3 gr3 g3 hf2 => ?_
      have hH3D : H3 Dl = some (.lst acc) := gr3.h Dl _ hH2D hiD
      have hP3D : P3.iv Dl = none := by rw [(gr3.fresh Dl _ hH2D).1]; exact hiD
      have hG3D : G3 Dl = none := by rw [gr3.same hH2D]; exact hG2D
      cases b with
      | false => exact ⟨P3, G3, acc, accD, (gr.trans gr2).trans gr3, g3, hG3D, hP3D, hH3D, gr3.reps (gr2.reps ra), Nat.le_succ_of_le hle, hf2⟩
      | true =>
        refine he P3 G3 H3 σ' env' _ _ g3 (ev'.grow gr3) hf2 fun y P4 G4 H4 dy gr4 g4 ry hf3 => ?_
        have hH4D : H4 Dl = some (.lst acc) := gr4.h Dl _ hH3D hP3D
        have hP4D : P4.iv Dl = none := by rw [(gr4.fresh Dl _ hH3D).1]; exact hP3D
        have hG4D : G4 Dl = none := by rw [gr4.same hH3D]; exact hG3D
        refine ⟨acc, hH4D, by omega, P4, G4, acc ++ [y], accD ++ [dy], (((gr.trans gr2).trans gr3).trans gr4).put hD, g4.put hG4D hP4D, hG4D, hP4D, upd_same, (gr4.reps (gr3.reps (gr2.reps ra))).append (.cons ry .nil), by rw [List.length_append]; exact Nat.succ_le_succ hle, ?_⟩
        simpa only [List.append_assoc, List.singleton_append] using hf3
  · have e : i = xs.length := by omega
    subst e
    refine .inl ⟨(it.2 _ P' G' H' gr.ext g' (hS _ _ _ gr)).2 rfl, ?_⟩
    rw [List.drop_length] at hgo
    have hq' : Q accD P'.n := by simpa [goD] using hgo
    exact hR Dl P' G' H' acc accD gr g' hD hgD hiD hhD (by omega) ra hq'
theorem lc_lift {w : TI} {g : TG} {tt : TT} {te : TE} {vs sl : List Nat} {φ : FG} (hi : RdJ κ far w) (hg : LiftG κ g sl φ) (ht : RdT κ t1 tt) (he : RdE κ f te) (hsl : ∀ i ∈ sl, i ∈ vs) : RdO κ (oComp far φ t1 f vs) (tLk (tLc w g tt te vs)) := by
  intro P G H σ env Q R good ev hf hR
  rcases hi P G H σ env _ good ev hf with hi | ⟨a, u, hGa, hdk, hi⟩
  · refine .inr (hi _ fun J Pb Gb Hb xs gr0 gb it hq => ?_)
    exact lc_body gb (ev.grow gr0) it.s (fun _ _ _ _ => trivial) hg ht he hsl hq (hR.grow gr0)
  · have hia : P.iv a = none := by
      cases e : P.iv a with
      | none => rfl
      | some t => rw [(good.gi a t e).1] at hGa; cases hGa
    rcases good.gh a u hGa with hHa | ⟨_, od, hHa⟩
    · refine .inl ⟨a, u, hHa, dk_mut hdk, fun od => ?_⟩
      have gl : Good κ P G (upd H a (.frz od u)) := good.lock hGa hdk
      refine hi od _ upd_same gl _ fun J xs it hq => ?_
      refine lc_body (H := upd H a (.frz od u)) (R := fun v H' => H' a = some (.frz od u) ∧ R v (upd H' a u)) gl ev it (fun P' G' H' gr => gr.h a _ upd_same hia) hg ht he hsl hq ?_
      intro b P' G' H' vs' xs' gr g' hb hgb hib hhb hz r hq'
      have hba : b ≠ a := fun e => by subst e; rw [upd_same] at hb; cases hb
      rw [upd_ne hba] at hb
      refine ⟨gr.h a _ upd_same hia, ?_⟩
      exact hR b P' G' (upd H' a u) vs' xs' (Grow.unlock hHa gr) (g'.unlock (gr.g _ _ hGa)) hb hgb hib (by rw [upd_ne hba]; exact hhb) hz r hq'
    · refine .inr (hi od H hHa good _ fun J xs it hq => ?_)
      exact lc_body good ev it (fun P' G' H' gr => gr.h a _ hHa hia) hg ht he hsl hq hR
/-- the readings that hang on the data alone -/
def tE (κ : Kit) (f : FE) : TE := fun σ H R => ∃ (P : Wd) (G : Hp) (env : DEnv) (Q : D → Nat → Prop), Good κ P G H ∧ EnvR κ G P.iv σ env ∧ f env P.n Q ∧ Lk κ P G H Q R
def tT (κ : Kit) (f : FT) : TT := fun σ H R => ∃ (P : Wd) (G : Hp) (env : DEnv) (Q : Bool → Nat → Prop), Good κ P G H ∧ EnvR κ G P.iv σ env ∧ f env P.n Q ∧ LkT κ P G H Q R
def tG (κ : Kit) (sl : List Nat) (φ : FG) : TG := fun v σ H R => ∃ (P : Wd) (G : Hp) (d : D) (env : DEnv) (Q : DEnv → Prop), Good κ P G H ∧ EnvR κ G P.iv σ env ∧ Rep κ G P.iv v d ∧ φ d env Q ∧
  (∀ σ' env', EnvR κ G P.iv σ' env' → (∀ vs : List Nat, (∀ i ∈ sl, i ∈ vs) → wipe σ' vs = wipe σ vs) → Q env' → R σ' H)
theorem DE.can {Y : Cx} (h : DE κ Y e f) : PE Y e (tE κ f) := by
  obtain ⟨t, p, q⟩ := h
  exact ⟨fun pins s σ H R I ⟨P, G, env, Q, g, ev, hf, hR⟩ => p.run pins s σ H R I (q P G H σ env Q R g ev hf hR)⟩
theorem DTs.can {Y : Cx} {ifs : List Expr} (h : DTs κ Y ifs t1) : PTs Y ifs (tT κ t1) := by
  obtain ⟨t, p, q⟩ := h
  exact ⟨fun pins s σ H R I ⟨P, G, env, Q, g, ev, hf, hR⟩ => p.run pins s σ H R I (q P G H σ env Q R g ev hf hR)⟩
theorem DG.can {Y : Cx} {sl : List Nat} {φ : FG} (h : DG κ Y tg sl φ) : PG Y tg (tG κ sl φ) := by
  obtain ⟨t, p, q⟩ := h
  exact ⟨fun pins s σ H v u R I r ⟨P, G, d, env, Q, g, ev, rd, hf, hR⟩ => p.run pins s σ H v u R I r (q P G H v d σ env Q R g ev rd hf hR)⟩
theorem rd_tE : RdE κ f (tE κ f) := fun P G H σ env Q R g ev hf hR => ⟨P, G, env, Q, g, ev, hf, hR⟩
theorem rd_tT : RdT κ t1 (tT κ t1) := fun P G H σ env Q R g ev hf hR => ⟨P, G, env, Q, g, ev, hf, hR⟩
theorem rd_tG {sl : List Nat} {φ : FG} : LiftG κ (tG κ sl φ) sl φ := fun P G H v d σ env Q R g ev r hf hR => ⟨P, G, d, env, Q, g, ev, r, hf, hR⟩
theorem do_comp {iter tg elt : Expr} {ifs : List Expr} {scope : Scope} (own : List (Str × Nat)) {sl : List Nat} {φ : FG} (hc : X.calm = true) (hN : X.N.Nodup) (hi : DI κ X tg iter far) (ok : blkC X.N X.env.scope scope own = true)
    (hg : ∀ (s : Shared) (H : Hp) (C : Addr) (cl : List (Str × Addr)) (fp : List Addr), DG κ (X.blk s H scope (compEnvC scope cl C X.env) fp) tg sl φ)
    (ht : ∀ (s : Shared) (H : Hp) (C : Addr) (cl : List (Str × Addr)) (fp : List Addr), DTs κ (X.blk s H scope (compEnvC scope cl C X.env) fp) ifs t1)
    (he : ∀ (s : Shared) (H : Hp) (C : Addr) (cl : List (Str × Addr)) (fp : List Addr), DE κ (X.blk s H scope (compEnvC scope cl C X.env) fp) elt f)
    (hsl : ∀ i ∈ sl, i ∈ own.map (·.2) := by decide) (hs : ∀ x, foldedSetIterable iter X.env x = pure x := by intro _; rfl) : DO κ X (.ListComp elt [⟨tg, iter, ifs, 0⟩] scope pos) (oComp far φ t1 f (own.map (·.2))) := by
  obtain ⟨w, pw, qw⟩ := hi
  exact ⟨_, PE.lk (pe_lc hc hN pw (blkOk_by ok) (fun s H C cl fp => (hg s H C cl fp).can) (fun s H C cl fp => (ht s H C cl fp).can) (fun s H C cl fp => (he s H C cl fp).can) hs), lc_lift qw rd_tG rd_tT rd_tE hsl⟩
def gSeqN (x : D) (m : Nat) (Q : List D → Nat → Prop) : Prop := match x with
  | .lst xs => Q xs m
  | .tup xs => Q xs m
  | .str s => Q (s.map fun c => .str [c]) m
  | .dct ks _ => Q ks m
  | .dcu ks _ => Q ks m
  | _ => False
theorem isKV_keys : ∀ k : List Key, (k.map kV).all isKV = true
  | [] => rfl
  | .inl _ :: k => by rw [List.map_cons, List.all_cons, isKV_keys k]; rfl
  | .inr _ :: k => by rw [List.map_cons, List.all_cons, isKV_keys k]; rfl
/-- a tuple of keys, whoever made it, is a value -/
theorem key_frz {κ : Kit} {P : Wd} {G H : Hp} {q : Addr} {k : List Key} (g : Good κ P G H) (h : H q = some (.tup (k.map kV))) (hz : k.length ≤ sizeLine) (hk : ∀ j ∈ k, OkK j) : ∃ G2, Grow P G H P G2 H ∧ Good κ P G2 H ∧ Rep κ G2 P.iv (.ref q) (.tup (k.map keyD)) := by
  have hi : P.iv q = none := by
    cases e : P.iv q with
    | none => rfl
    | some t =>
      obtain ⟨_, o, q1, q2⟩ := g.gi q t e
      rw [h] at q1
      cases q1
      have := κ.jk _ _ _ _ q2
      rw [isKT, isKV_keys] at this; cases this
  have rs : ∀ {G2 : Hp} (k : List Key), (∀ j ∈ k, OkK j) → Reps κ G2 P.iv (k.map kV) (k.map keyD) := by
    intro G2 k
    induction k with
    | nil => exact fun _ => .nil
    | cons j k ih =>
      intro hk
      refine .cons ?_ (ih fun x hx => hk x (List.mem_cons_of_mem _ hx))
      have hj := hk j (List.mem_cons_self ..)
      cases j with
      | inl i => exact .int
      | inr x => exact .str (s := x.cps.toList) hj
  cases e : G q with
  | some o =>
    have : o = .tup (k.map kV) := by
      rcases g.gh q o e with w | ⟨_, od, w⟩
      · rw [h] at w; cases w; rfl
      · rw [h] at w; cases w
    subst this
    exact ⟨G, .refl, g, .tup e (by rw [List.length_map]; exact hz) (rs k hk)⟩
  | none => exact ⟨_, Grow.refl.frzK h (isKV_keys k) hi e, g.frz e hi h, .tup upd_same (by rw [List.length_map]; exact hz) (rs k hk)⟩
@[simp] def iSeqN (i : Nat) : FA := fun env n Q => ∃ d, env[i]? = some (some d) ∧ gSeqN d n Q
theorem keysV {k : Key} {G : Hp} {iv : IV} (h : OkK k) : Rep κ G iv (kV k) (keyD k) := by
  cases k with
  | inl i => exact .int
  | inr x => exact .str (s := x.cps.toList) h
theorem di_name {i : Nat} {x : Str} (hN : X.N[i]? = some x) (hv : Vis X.env.scope x) (hd : (x == ("__debug__" : Str)) = false := by decide) (hcd : (x == ("__classdict__" : Str)) = false := by decide) : DI κ X tg (.Name x pos) (iSeqN i) := by
  refine ⟨_, PI.or (pi_any (pe_var hN hv hd hcd)) (pi_keys (pe_var hN hv hd hcd)), fun P G H σ env Q g ev hf => ?_⟩
  obtain ⟨d, he, hq⟩ := hf
  obtain ⟨v, h1, r⟩ := ev.get i d he
  unfold gSeqN at hq
  split at hq
  · cases r with
    | lst h z r => exact .inl fun R hR => .inl ⟨_, h1, .inl ⟨_, rfl, ⟨_, SqL.of (g.gx h rfl)⟩, hR _ P G H _ .refl g (iter_list g h z r) hq⟩⟩
  · cases r with
    | tup h z r => exact .inl fun R hR => .inl ⟨_, h1, .inr (.inl ⟨_, rfl, ⟨_, SqT.of (g.gx h rfl)⟩, hR _ P G H _ .refl g (iter_tup g h z r) hq⟩)⟩
  · cases r with
    | str h => exact .inl fun R hR => .inl ⟨_, h1, .inr (.inr ⟨_, rfl, hR _ P G H _ .refl g (iter_str h) hq⟩)⟩
  · cases r with
    | @dctK a kk us vs h hl z nd r =>
      refine .inr ⟨a, _, h, rfl, fun od H1 hH1 g1 R hR => .inr ⟨_, h1, a, od, rfl, .inl ⟨_, hH1, hR _ _ ⟨by rw [List.length_map]; exact z, fun j P1 G1 H2 ex g2 hS => ⟨fun hj => ?_, fun hj => ?_⟩⟩ hq⟩⟩⟩
      · rw [List.length_map] at hj
        refine ⟨⟨hS, by rw [List.length_zip, ← hl, Nat.min_self]; exact hj⟩, fun v H3 hy => ?_⟩
        obtain ⟨rfl, k, w, e1, rfl⟩ := hy
        have hk : kk[j]? = some k := by
          rw [List.getElem?_zip_eq_some] at e1
          exact e1.1
        exact ⟨G1, keyD k, .refl, g2, by rw [List.getElem?_map, hk]; rfl, keysV (nd.2 k (List.mem_of_getElem? hk))⟩
      · rw [List.length_map] at hj
        exact ⟨hS, by rw [List.length_zip, ← hl, Nat.min_self]; omega⟩
  · cases r with
    | @dctT a kk us vs h hl z nd r =>
      refine .inr ⟨a, _, h, rfl, fun od H1 hH1 g1 R hR => .inr ⟨_, h1, a, od, rfl, .inr ⟨_, hH1, hR _ _ ⟨by rw [List.length_map]; exact z, fun j P1 G1 H2 ex g2 hS => ⟨fun hj => ?_, fun hj => ?_⟩⟩ hq⟩⟩⟩
      · rw [List.length_map] at hj
        refine ⟨⟨hS, by rw [List.length_zip, ← hl, Nat.min_self]; exact hj⟩, fun v H3 hy => ?_⟩
        obtain ⟨rfl, k, w, q, e1, rfl, hqk⟩ := hy
        have hk : kk[j]? = some k := by
          rw [List.getElem?_zip_eq_some] at e1
          exact e1.1
        have hm := nd.2 k (List.mem_of_getElem? hk)
        obtain ⟨G4, gr4, g4, r4⟩ := key_frz g2 hqk hm.1 hm.2
        exact ⟨G4, .tup (k.map keyD), gr4, g4, by rw [List.getElem?_map, hk]; rfl, r4⟩
      · rw [List.length_map] at hj
        exact ⟨hS, by rw [List.length_zip, ← hl, Nat.min_self]; omega⟩
  · exact hq.elim
end
end DL
namespace DL
open PySem PySem.Spec PyProof.Rows L2
/-- a tree of lists, tuples, dicts of this def's own, by their addresses -/
inductive OT where
  | leaf (d : D) | lst (a : Addr) (ts : List OT) | tup (a : Addr) (ts : List OT) | dct (a : Addr) (ks : List D) (ts : List OT) | dcu (a : Addr) (ks : List D) (ts : List OT)
mutual
def OT.view : OT → D
  | .leaf d => d | .lst _ ts => .lst (OT.views ts) | .tup _ ts => .tup (OT.views ts) | .dct _ ks ts => .dct ks (OT.views ts) | .dcu _ ks ts => .dcu ks (OT.views ts)
def OT.views : List OT → List D
  | [] => [] | t :: ts => t.view :: OT.views ts
end
mutual
def OT.own : OT → List Addr
  | .leaf _ => [] | .lst a ts => a :: OT.owns ts | .tup a ts => a :: OT.owns ts | .dct a _ ts => a :: OT.owns ts | .dcu a _ ts => a :: OT.owns ts
def OT.owns : List OT → List Addr
  | [] => [] | t :: ts => t.own ++ OT.owns ts
end
mutual
/-- a list or a dict of its own is in it -/
def OT.mut : OT → Bool
  | .leaf _ => false | .lst _ _ => true | .tup _ ts => OT.muts ts | .dct _ _ _ => true | .dcu _ _ _ => true
def OT.muts : List OT → Bool
  | [] => false | t :: ts => t.mut || OT.muts ts
end
mutual
def OT.rep (κ : Kit) (G : Hp) (iv : IV) (H : Hp) : OT → V → Prop
  | .leaf d, v => Rep κ G iv v d
  | .lst a ts, v => v = .ref a ∧ ∃ vs, H a = some (.lst vs) ∧ vs.length ≤ sizeLine ∧ OT.reps κ G iv H ts vs
  | .tup a ts, v => v = .ref a ∧ OT.muts ts = true ∧ ∃ vs, H a = some (.tup vs) ∧ vs.length ≤ sizeLine ∧ OT.reps κ G iv H ts vs
  | .dct a ks ts, v => v = .ref a ∧ ∃ (kk : List Key) (us : List V), H a = some (.dK (kk.zip us)) ∧ kk.length = us.length ∧ kk.length ≤ sizeLine ∧ OkKs kk ∧ ks = kk.map keyD ∧ OT.reps κ G iv H ts us
  | .dcu a ks ts, v => v = .ref a ∧ ∃ (kk : List (List Key)) (us : List V), H a = some (.dT (kk.zip us)) ∧ kk.length = us.length ∧ kk.length ≤ sizeLine ∧ OkKt kk ∧ ks = (kk.map fun k => D.tup (k.map keyD)) ∧ OT.reps κ G iv H ts us
def OT.reps (κ : Kit) (G : Hp) (iv : IV) (H : Hp) : List OT → List V → Prop
  | [], vs => vs = []
  | t :: ts, vs => ∃ v us, vs = v :: us ∧ t.rep κ G iv H v ∧ OT.reps κ G iv H ts us
end
@[simp] theorem ot_view_leaf (d : D) : (OT.leaf d).view = d := by rw [OT.view]
@[simp] theorem ot_view_lst (a : Addr) (ts : List OT) : (OT.lst a ts).view = .lst (OT.views ts) := by rw [OT.view]
@[simp] theorem ot_view_tup (a : Addr) (ts : List OT) : (OT.tup a ts).view = .tup (OT.views ts) := by rw [OT.view]
@[simp] theorem ot_view_dct (a : Addr) (ks : List D) (ts : List OT) : (OT.dct a ks ts).view = .dct ks (OT.views ts) := by rw [OT.view]
@[simp] theorem ot_view_dcu (a : Addr) (ks : List D) (ts : List OT) : (OT.dcu a ks ts).view = .dcu ks (OT.views ts) := by rw [OT.view]
@[simp] theorem ot_views_nil : OT.views [] = [] := by rw [OT.views]
@[simp] theorem ot_views_cons (t : OT) (ts : List OT) : OT.views (t :: ts) = t.view :: OT.views ts := by rw [OT.views]
section
variable {κ : Kit} {G G' H H' : Hp} {iv iv' : IV}
mutual
theorem OT.rep.mono (hg : ∀ a o, G a = some o → G' a = some o) (hi : ∀ a t, iv a = some t → iv' a = some t) : ∀ {t : OT} {v : V}, (∀ a ∈ t.own, ∀ o, H a = some o → H' a = some o) → OT.rep κ G iv H t v → OT.rep κ G' iv' H' t v
  | .leaf d, v, _, r => by rw [OT.rep] at r ⊢; exact Rep.mono hg hi r
  | .lst a ts, v, h, r => by
    rw [OT.rep] at r ⊢
    rw [OT.own] at h
    obtain ⟨e, vs, h1, h2, h3⟩ := r
    exact ⟨e, vs, h a (List.mem_cons_self ..) _ h1, h2, OT.reps.mono hg hi (fun b hb => h b (List.mem_cons_of_mem _ hb)) h3⟩
  | .tup a ts, v, h, r => by
    rw [OT.rep] at r ⊢
    rw [OT.own] at h
    obtain ⟨e, hm, vs, h1, h2, h3⟩ := r
    exact ⟨e, hm, vs, h a (List.mem_cons_self ..) _ h1, h2, OT.reps.mono hg hi (fun b hb => h b (List.mem_cons_of_mem _ hb)) h3⟩
  | .dct a ks ts, v, h, r => by
    rw [OT.rep] at r ⊢
    rw [OT.own] at h
    obtain ⟨e, kk, us, h1, hl, hz, hn, hk, h3⟩ := r
    exact ⟨e, kk, us, h a (List.mem_cons_self ..) _ h1, hl, hz, hn, hk, OT.reps.mono hg hi (fun b hb => h b (List.mem_cons_of_mem _ hb)) h3⟩
  | .dcu a ks ts, v, h, r => by
    rw [OT.rep] at r ⊢
    rw [OT.own] at h
    obtain ⟨e, kk, us, h1, hl, hz, hn, hk, h3⟩ := r
    exact ⟨e, kk, us, h a (List.mem_cons_self ..) _ h1, hl, hz, hn, hk, OT.reps.mono hg hi (fun b hb => h b (List.mem_cons_of_mem _ hb)) h3⟩
theorem OT.reps.mono (hg : ∀ a o, G a = some o → G' a = some o) (hi : ∀ a t, iv a = some t → iv' a = some t) : ∀ {ts : List OT} {vs : List V}, (∀ a ∈ OT.owns ts, ∀ o, H a = some o → H' a = some o) → OT.reps κ G iv H ts vs → OT.reps κ G' iv' H' ts vs
  | [], vs, _, r => by rw [OT.reps] at r ⊢; exact r
  | t :: ts, vs, h, r => by
    rw [OT.reps] at r ⊢
    rw [OT.owns] at h
    obtain ⟨v, us, e, h1, h2⟩ := r
    exact ⟨v, us, e, OT.rep.mono hg hi (fun b hb => h b (List.mem_append_left _ hb)) h1, OT.reps.mono hg hi (fun b hb => h b (List.mem_append_right _ hb)) h2⟩
end
mutual
theorem OT.rep.noKey : ∀ {t : OT} {v : V}, OT.rep κ G iv H t v → t.mut = true → isKV v = false
  | .leaf d, v, r, h => by rw [OT.mut] at h; cases h
  | .lst a ts, v, r, h => by rw [OT.rep] at r; rw [r.1]; rfl
  | .tup a ts, v, r, h => by rw [OT.rep] at r; rw [r.1]; rfl
  | .dct a ks ts, v, r, h => by rw [OT.rep] at r; rw [r.1]; rfl
  | .dcu a ks ts, v, r, h => by rw [OT.rep] at r; rw [r.1]; rfl
theorem OT.reps.noKey : ∀ {ts : List OT} {vs : List V}, OT.reps κ G iv H ts vs → OT.muts ts = true → vs.all isKV = false
  | [], vs, r, h => by rw [OT.muts] at h; cases h
  | t :: ts, vs, r, h => by
    rw [OT.reps] at r
    rw [OT.muts, Bool.or_eq_true] at h
    obtain ⟨v, us, rfl, h1, h2⟩ := r
    rw [List.all_cons]
    rcases h with h | h
    · rw [OT.rep.noKey h1 h]; rfl
    · rw [OT.reps.noKey h2 h, Bool.and_false]
end
mutual
theorem OT.rep.dom : ∀ {t : OT} {v : V}, OT.rep κ G iv H t v → ∀ a ∈ t.own, ∃ o, H a = some o ∧ ((∃ vs, o = .lst vs) ∨ (∃ vs, o = .tup vs ∧ vs.all isKV = false) ∨ (∃ ks, o = .dK ks) ∨ ∃ ks, o = .dT ks)
  | .leaf d, v, _, a, h => by rw [OT.own] at h; cases h
  | .lst a ts, v, r, b, h => by
    rw [OT.rep] at r
    rw [OT.own] at h
    obtain ⟨e, vs, h1, h2, h3⟩ := r
    rcases List.mem_cons.mp h with rfl | h
    · exact ⟨_, h1, .inl ⟨_, rfl⟩⟩
    · exact OT.reps.dom h3 b h
  | .tup a ts, v, r, b, h => by
    rw [OT.rep] at r
    rw [OT.own] at h
    obtain ⟨e, hm, vs, h1, h2, h3⟩ := r
    rcases List.mem_cons.mp h with rfl | h
    · exact ⟨_, h1, .inr (.inl ⟨_, rfl, OT.reps.noKey h3 hm⟩)⟩
    · exact OT.reps.dom h3 b h
  | .dct a ks ts, v, r, b, h => by
    rw [OT.rep] at r
    rw [OT.own] at h
    obtain ⟨e, kk, us, h1, hl, hz, hn, hk, h3⟩ := r
    rcases List.mem_cons.mp h with rfl | h
    · exact ⟨_, h1, .inr (.inr (.inl ⟨_, rfl⟩))⟩
    · exact OT.reps.dom h3 b h
  | .dcu a ks ts, v, r, b, h => by
    rw [OT.rep] at r
    rw [OT.own] at h
    obtain ⟨e, kk, us, h1, hl, hz, hn, hk, h3⟩ := r
    rcases List.mem_cons.mp h with rfl | h
    · exact ⟨_, h1, .inr (.inr (.inr ⟨_, rfl⟩))⟩
    · exact OT.reps.dom h3 b h
theorem OT.reps.dom : ∀ {ts : List OT} {vs : List V}, OT.reps κ G iv H ts vs → ∀ a ∈ OT.owns ts, ∃ o, H a = some o ∧ ((∃ vs, o = .lst vs) ∨ (∃ vs, o = .tup vs ∧ vs.all isKV = false) ∨ (∃ ks, o = .dK ks) ∨ ∃ ks, o = .dT ks)
  | [], vs, _, a, h => by rw [OT.owns] at h; cases h
  | t :: ts, vs, r, a, h => by
    rw [OT.reps] at r
    rw [OT.owns] at h
    obtain ⟨v, us, e, h1, h2⟩ := r
    rcases List.mem_append.mp h with h | h
    · exact OT.rep.dom h1 a h
    · exact OT.reps.dom h2 a h
end
mutual
theorem OT.rep.seen (hg : ∀ a o, G a = some o → G' a = some o) : ∀ {t : OT} {v : V}, (∀ a ∈ t.own, ∀ o, H a = some o → G' a = some o) → OT.rep κ G iv H t v → Rep κ G' iv v t.view
  | .leaf d, v, _, r => by rw [OT.rep] at r; rw [OT.view]; exact Rep.mono hg (fun _ _ h => h) r
  | .lst a ts, v, h, r => by
    rw [OT.rep] at r; rw [OT.view]
    rw [OT.own] at h
    obtain ⟨e, vs, h1, h2, h3⟩ := r
    subst e
    exact .lst (h a (List.mem_cons_self ..) _ h1) h2 (OT.reps.seen hg (fun b hb => h b (List.mem_cons_of_mem _ hb)) h3)
  | .tup a ts, v, h, r => by
    rw [OT.rep] at r; rw [OT.view]
    rw [OT.own] at h
    obtain ⟨e, hm, vs, h1, h2, h3⟩ := r
    subst e
    exact .tup (h a (List.mem_cons_self ..) _ h1) h2 (OT.reps.seen hg (fun b hb => h b (List.mem_cons_of_mem _ hb)) h3)
  | .dct a ks ts, v, h, r => by
    rw [OT.rep] at r; rw [OT.view]
    rw [OT.own] at h
    obtain ⟨e, kk, us, h1, hl, hz, hn, hk, h3⟩ := r
    subst e hk
    exact .dctK (h a (List.mem_cons_self ..) _ h1) hl hz hn (OT.reps.seen hg (fun b hb => h b (List.mem_cons_of_mem _ hb)) h3)
  | .dcu a ks ts, v, h, r => by
    rw [OT.rep] at r; rw [OT.view]
    rw [OT.own] at h
    obtain ⟨e, kk, us, h1, hl, hz, hn, hk, h3⟩ := r
    subst e hk
    exact .dctT (h a (List.mem_cons_self ..) _ h1) hl hz hn (OT.reps.seen hg (fun b hb => h b (List.mem_cons_of_mem _ hb)) h3)
theorem OT.reps.seen (hg : ∀ a o, G a = some o → G' a = some o) : ∀ {ts : List OT} {vs : List V}, (∀ a ∈ OT.owns ts, ∀ o, H a = some o → G' a = some o) → OT.reps κ G iv H ts vs → Reps κ G' iv vs (OT.views ts)
  | [], vs, _, r => by rw [OT.reps] at r; rw [OT.views, r]; exact .nil
  | t :: ts, vs, h, r => by
    rw [OT.reps] at r; rw [OT.views]
    rw [OT.owns] at h
    obtain ⟨v, us, e, h1, h2⟩ := r
    subst e
    exact .cons (OT.rep.seen hg (fun b hb => h b (List.mem_append_left _ hb)) h1) (OT.reps.seen hg (fun b hb => h b (List.mem_append_right _ hb)) h2)
end
end
/-- what a slot holds: a value; a list, a dict of this def's own; a tree of such -/
inductive Sl where
  | val (d : D) | own (xs : List D) | ownd (ks vs : List D) | tre (t : OT)
def Sl.view : Sl → D
  | .val d => d | .own xs => .lst xs | .ownd ks vs => .dct ks vs | .tre t => t.view
def Sl.hide : Sl → Option D
  | .val d => some d | _ => none
@[simp] theorem view_val (d : D) : (Sl.val d).view = d := rfl
@[simp] theorem view_own (d : List D) : (Sl.own d).view = .lst d := rfl
@[simp] theorem view_ownd (d e : List D) : (Sl.ownd d e).view = .dct d e := rfl
@[simp] theorem view_tre (t : OT) : (Sl.tre t).view = t.view := rfl
@[simp] theorem hide_val (d : D) : (Sl.val d).hide = some d := rfl
@[simp] theorem hide_own (d : List D) : (Sl.own d).hide = none := rfl
@[simp] theorem hide_ownd (d e : List D) : (Sl.ownd d e).hide = none := rfl
@[simp] theorem hide_tre (t : OT) : (Sl.tre t).hide = none := rfl
abbrev SEnv := List (Option Sl)
@[simp] def view (env : SEnv) : DEnv := env.map fun o => o.map Sl.view
@[simp] def hide (env : SEnv) : DEnv := env.map fun o => o.bind Sl.hide
/-- a private list, a private dict -/
def OwnL (κ : Kit) (H0 : Hp) (P : Wd) (G H : Hp) (a : Addr) (xs : List D) : Prop := ∃ vs, H a = some (.lst vs) ∧ vs.length ≤ sizeLine ∧ H0 a = none ∧ G a = none ∧ P.iv a = none ∧ Reps κ G P.iv vs xs
def OwnD (κ : Kit) (H0 : Hp) (P : Wd) (G H : Hp) (a : Addr) (ks vs : List D) : Prop := ∃ (kk : List Key) (us : List V), H a = some (.dK (kk.zip us)) ∧ kk.length = us.length ∧ kk.length ≤ sizeLine ∧ OkKs kk ∧ ks = kk.map keyD ∧ H0 a = none ∧ G a = none ∧ P.iv a = none ∧ Reps κ G P.iv us vs
def OwnT (κ : Kit) (H0 : Hp) (P : Wd) (G H : Hp) (v : V) (t : OT) : Prop := t.rep κ G P.iv H v ∧ t.own.Nodup ∧ ∀ a ∈ t.own, H0 a = none ∧ G a = none ∧ P.iv a = none
/-- what stands for a slot's data -/
def SlR (κ : Kit) (H0 : Hp) (P : Wd) (G H : Hp) (v : V) : Sl → Prop
  | .val d => Rep κ G P.iv v d
  | .own xs => ∃ a, v = .ref a ∧ OwnL κ H0 P G H a xs
  | .ownd ks vs => ∃ a, v = .ref a ∧ OwnD κ H0 P G H a ks vs
  | .tre t => OwnT κ H0 P G H v t
/-- a slot's own addresses -/
def Holds : Sl → V → Addr → Prop
  | .val _, _, _ => False
  | .own _, v, a => v = .ref a
  | .ownd _ _, v, a => v = .ref a
  | .tre t, _, a => a ∈ t.own
structure SEnvR (κ : Kit) (H0 : Hp) (P : Wd) (G H : Hp) (σ : L2.St) (env : SEnv) : Prop where
  len : env.length = σ.length
  get : ∀ (i : Nat) (s : Sl), env[i]? = some (some s) → ∃ v : V, σ[i]? = some (some v) ∧ SlR κ H0 P G H v s
  apart : ∀ (i j : Nat) (s t : Sl) (v w : V) (a : Addr), i ≠ j → env[i]? = some (some s) → env[j]? = some (some t) → σ[i]? = some (some v) → σ[j]? = some (some w) → Holds s v a → Holds t w a → False
section
variable {κ : Kit} {H0 : Hp} {P P' : Wd} {G G' H H' : Hp} {σ : L2.St} {env : SEnv} {a : Addr} {xs ks vs : List D} {v : V} {s : Sl}
/-- what holds of a slot's own addresses -/
theorem SlR.held (r : SlR κ H0 P G H v s) (h : Holds s v a) : H0 a = none ∧ G a = none ∧ P.iv a = none ∧ ∃ o, H a = some o := by
  cases s with
  | val d => exact h.elim
  | own xs =>
    obtain ⟨b, e, vs, h1, h2, h3, h4, h5, h6⟩ := r
    rw [e] at h
    cases h
    exact ⟨h3, h4, h5, _, h1⟩
  | ownd ks vs =>
    obtain ⟨b, e, kk, us, h1, hl, hz, hn, hk, h3, h4, h5, h6⟩ := r
    rw [e] at h
    cases h
    exact ⟨h3, h4, h5, _, h1⟩
  | tre t =>
    obtain ⟨h1, h2, h3⟩ := r
    obtain ⟨q1, q2, q3⟩ := h3 a h
    obtain ⟨o, ho, _⟩ := h1.dom a h
    exact ⟨q1, q2, q3, o, ho⟩
theorem SlR.heldO (r : SlR κ H0 P G H v s) (h : Holds s v a) : ∃ o, H a = some o ∧ isKT o = false := by
  cases s with
  | val d => exact h.elim
  | own xs =>
    obtain ⟨b, e, vs, h1, h2, h3, h4, h5, h6⟩ := r
    rw [e] at h
    cases h
    exact ⟨_, h1, rfl⟩
  | ownd ks vs =>
    obtain ⟨b, e, kk, us, h1, hl, hz, hn, hk, h3, h4, h5, h6⟩ := r
    rw [e] at h
    cases h
    exact ⟨_, h1, rfl⟩
  | tre t =>
    obtain ⟨h1, h2, h3⟩ := r
    obtain ⟨o, ho, hk⟩ := h1.dom a h
    rcases hk with ⟨vs, rfl⟩ | ⟨vs, rfl, hn⟩ | ⟨ks, rfl⟩ | ⟨ks, rfl⟩
    · exact ⟨_, ho, rfl⟩
    · exact ⟨_, ho, hn⟩
    · exact ⟨_, ho, rfl⟩
    · exact ⟨_, ho, rfl⟩
/-- a slot's data in another world that keeps its own part -/
theorem SlR.to {H1 : Hp} (r : SlR κ H0 P G H v s) (hg : ∀ b o, G b = some o → G' b = some o) (hi : ∀ b t, P.iv b = some t → P'.iv b = some t) (h : ∀ b, Holds s v b → (∀ o, H b = some o → H' b = some o) ∧ H1 b = none ∧ G' b = none ∧ P'.iv b = none) : SlR κ H1 P' G' H' v s := by
  cases s with
  | val d => exact Rep.mono hg hi r
  | own xs =>
    obtain ⟨b, e, vs, h1, h2, h3, h4, h5, h6⟩ := r
    obtain ⟨k1, k2, k3, k4⟩ := h b e
    exact ⟨b, e, vs, k1 _ h1, h2, k2, k3, k4, Reps.mono hg hi h6⟩
  | ownd ks vs =>
    obtain ⟨b, e, kk, us, h1, hl, hz, hn, hk, h3, h4, h5, h6⟩ := r
    obtain ⟨k1, k2, k3, k4⟩ := h b e
    exact ⟨b, e, kk, us, k1 _ h1, hl, hz, hn, hk, k2, k3, k4, Reps.mono hg hi h6⟩
  | tre t =>
    obtain ⟨h1, h2, h3⟩ := r
    exact ⟨h1.mono hg hi fun b hb o => (h b hb).1 o, h2, fun b hb => (h b hb).2⟩
theorem OwnL.grow (o : OwnL κ H0 P G H a xs) (gr : Grow P G H P' G' H') : OwnL κ H0 P' G' H' a xs := by
  obtain ⟨vs, h1, h2, h3, h4, h5, h6⟩ := o
  obtain ⟨f1, f2, _⟩ := gr.fresh a _ h1
  have f3 := gr.same h1
  exact ⟨vs, gr.h a _ h1 h5, h2, h3, by rw [f3]; exact h4, by rw [f1]; exact h5, gr.reps h6⟩
theorem OwnD.grow (o : OwnD κ H0 P G H a ks vs) (gr : Grow P G H P' G' H') : OwnD κ H0 P' G' H' a ks vs := by
  obtain ⟨kk, us, h1, hl, hz, hn, hk, h3, h4, h5, h6⟩ := o
  obtain ⟨f1, f2, _⟩ := gr.fresh a _ h1
  have f3 := gr.same h1
  exact ⟨kk, us, gr.h a _ h1 h5, hl, hz, hn, hk, h3, by rw [f3]; exact h4, by rw [f1]; exact h5, gr.reps h6⟩
theorem SlR.grow (o : SlR κ H0 P G H v s) (gr : Grow P G H P' G' H') : SlR κ H0 P' G' H' v s :=
  o.to gr.g gr.iv fun b hb => by
    obtain ⟨h1, h2, h3, _⟩ := o.held hb
    obtain ⟨u, h4, hk⟩ := o.heldO hb
    obtain ⟨f1, f2, _⟩ := gr.fresh b u h4
    have f3 := gr.same h4 hk
    exact ⟨fun w hw => gr.h b w hw h3, h1, by rw [f3]; exact h2, by rw [f1]; exact h3⟩
theorem SEnvR.grow (ev : SEnvR κ H0 P G H σ env) (gr : Grow P G H P' G' H') : SEnvR κ H0 P' G' H' σ env :=
  ⟨ev.len, fun i s h => by obtain ⟨v, h1, h2⟩ := ev.get i s h; exact ⟨v, h1, h2.grow gr⟩, ev.apart⟩
theorem SEnvR.hide (ev : SEnvR κ H0 P G H σ env) : EnvR κ G P.iv σ (hide env) :=
  ⟨by unfold DL.hide; rw [List.length_map]; exact ev.len, fun i d h => by
    unfold DL.hide at h
    rw [List.getElem?_map] at h
    cases e : env[i]? with
    | none => rw [e] at h; cases h
    | some o =>
      rw [e] at h
      cases o with
      | none => simp at h
      | some s =>
        cases s with
        | val d' =>
          simp [Sl.hide] at h
          subst h
          exact ev.get i _ e
        | own xs => simp [Sl.hide] at h
        | ownd ks vs => simp [Sl.hide] at h
        | tre t => simp [Sl.hide] at h⟩
/-- no slot's own list -/
def Priv (env : SEnv) (σ : L2.St) (a : Addr) : Prop := ∃ (i : Nat) (s : Sl) (v : V), env[i]? = some (some s) ∧ σ[i]? = some (some v) ∧ Holds s v a
open Classical in
/-- the frozen part, the slots' own lists lent -/
noncomputable def lent (env : SEnv) (σ : L2.St) (G H : Hp) : Hp := fun a => if Priv env σ a then H a else G a
theorem SEnvR.priv (ev : SEnvR κ H0 P G H σ env) (h : Priv env σ a) : H0 a = none ∧ G a = none ∧ P.iv a = none ∧ ∃ o, H a = some o := by
  obtain ⟨i, s, v, h1, h2, h3⟩ := h
  obtain ⟨w, q1, q2⟩ := ev.get i s h1
  rw [h2] at q1
  cases q1
  exact q2.held h3
theorem lent_sub (ev : SEnvR κ H0 P G H σ env) : ∀ a o, G a = some o → lent env σ G H a = some o := fun a o h => by
  unfold lent
  by_cases hp : Priv env σ a
  · rw [(ev.priv hp).2.1] at h; cases h
  · rw [if_neg hp]; exact h
theorem lent_good (ev : SEnvR κ H0 P G H σ env) (g : Good κ P G H) : Good κ P (lent env σ G H) H where
  pg := fun a o h => lent_sub ev a o (g.pg a o h)
  fx := g.fx
  gh := fun a o h => by
    unfold lent at h
    by_cases hp : Priv env σ a
    · rw [if_pos hp] at h; exact .inl h
    · rw [if_neg hp] at h; exact g.gh a o h
  gi := fun a t h => by
    obtain ⟨q1, o, q2, q3⟩ := g.gi a t h
    refine ⟨?_, o, q2, q3⟩
    unfold lent
    rw [if_neg fun hp => by rw [(ev.priv hp).2.2.1] at h; cases h]
    exact q1
theorem lent_priv (h : Priv env σ a) : lent env σ G H a = H a := by unfold lent; rw [if_pos h]
theorem SEnvR.view (ev : SEnvR κ H0 P G H σ env) : EnvR κ (lent env σ G H) P.iv σ (view env) :=
  ⟨by unfold DL.view; rw [List.length_map]; exact ev.len, fun i d h => by
    unfold DL.view at h
    rw [List.getElem?_map] at h
    cases e : env[i]? with
    | none => rw [e] at h; cases h
    | some o =>
      rw [e] at h
      cases o with
      | none => simp at h
      | some s =>
        simp at h
        subst h
        obtain ⟨v, q1, q2⟩ := ev.get i s e
        refine ⟨v, q1, ?_⟩
        cases s with
        | val d => exact Rep.mono (lent_sub ev) (fun _ _ h => h) q2
        | own xs =>
          obtain ⟨a, ea, vs, h1, h2, h3, h4, h5, h6⟩ := q2
          subst ea
          exact .lst (by rw [lent_priv ⟨i, _, _, e, q1, rfl⟩]; exact h1) h2 (Reps.mono (lent_sub ev) (fun _ _ h => h) h6)
        | ownd ks vs =>
          obtain ⟨a, ea, kk, us, h1, hl, hz, hn, hk, h3, h4, h5, h6⟩ := q2
          subst ea
          subst hk
          exact .dctK (by rw [lent_priv ⟨i, _, _, e, q1, rfl⟩]; exact h1) hl hz hn (Reps.mono (lent_sub ev) (fun _ _ h => h) h6)
        | tre t =>
          exact q2.1.seen (lent_sub ev) fun a ha o ho => by rw [lent_priv ⟨i, _, _, e, q1, ha⟩]; exact ho⟩
mutual
def treeD : D → Bool
  | .non => true | .bl _ => true | .int _ => true | .str _ => true
  | .tup xs => treeDs xs | .obj _ fs => treeDs fs | .box _ _ => true
  | .lst _ => false | .dct _ _ => false | .dcu _ _ => false | .scr _ => false
def treeDs : List D → Bool
  | [] => true
  | d :: ds => treeD d && treeDs ds
end
theorem treeDs_all : ∀ ds : List D, treeDs ds = ds.all treeD
  | [] => rfl
  | d :: ds => by rw [treeDs, treeDs_all ds, List.all_cons]
@[simp] theorem treeD_non : treeD .non = true := by rw [treeD]
@[simp] theorem treeD_bl (b : Bool) : treeD (.bl b) = true := by rw [treeD]
@[simp] theorem treeD_int (i : Int) : treeD (.int i) = true := by rw [treeD]
@[simp] theorem treeD_str (s : List Nat) : treeD (.str s) = true := by rw [treeD]
@[simp] theorem treeD_tup (s : List D) : treeD (.tup s) = s.all treeD := by rw [treeD, treeDs_all]
@[simp] theorem treeD_obj (c : Nat) (s : List D) : treeD (.obj c s) = s.all treeD := by rw [treeD, treeDs_all]
@[simp] theorem treeD_box (c : Nat) (s : List D) : treeD (.box c s) = true := by rw [treeD]
@[simp] theorem treeD_lst (s : List D) : treeD (.lst s) = false := by rw [treeD]
@[simp] theorem treeD_dct (s t : List D) : treeD (.dct s t) = false := by rw [treeD]
open Classical in
/-- the frozen part behind a loan -/
noncomputable def back (env : SEnv) (σ : L2.St) (G' : Hp) : Hp := fun a => if Priv env σ a then none else G' a
mutual
/-- what holds a list of its own is no tree -/
theorem OT.rep.noTree {iv iv2 : IV} {L : Hp} : ∀ {t : OT} {v : V} {d : D}, OT.rep κ G iv H t v → (∀ a ∈ t.own, ∀ o, H a = some o → L a = some o) → t.mut = true → Rep κ L iv2 v d → treeD d = true → (∀ a ∈ t.own, iv2 a = none) → False
  | .leaf _, _, _, _, _, hm, _, _, _ => by rw [OT.mut] at hm; cases hm
  | .lst a ts, v, d, r, h, _, rd, td, hi => by
    rw [OT.rep] at r
    obtain ⟨e, vs, h1, h2, h3⟩ := r
    subst e
    have hL := h a (by rw [OT.own]; exact List.mem_cons_self ..) _ h1
    have hi := hi a (by rw [OT.own]; exact List.mem_cons_self ..)
    cases rd with
    | lst => rw [treeD] at td; cases td
    | tup k => rw [hL] at k; cases k
    | dctK => rw [treeD] at td; cases td
    | dctT => rw [treeD] at td; cases td
    | obj hc k => rw [hL] at k; cases k
    | box k => rw [hi] at k; cases k
    | scr => rw [treeD] at td; cases td
  | .dct a ks ts, v, d, r, h, _, rd, td, hi => by
    rw [OT.rep] at r
    obtain ⟨e, kk, us, h1, _⟩ := r
    subst e
    have hL := h a (by rw [OT.own]; exact List.mem_cons_self ..) _ h1
    have hi := hi a (by rw [OT.own]; exact List.mem_cons_self ..)
    cases rd with
    | lst => rw [treeD] at td; cases td
    | tup k => rw [hL] at k; cases k
    | dctK => rw [treeD] at td; cases td
    | dctT => rw [treeD] at td; cases td
    | obj hc k => rw [hL] at k; cases k
    | box k => rw [hi] at k; cases k
    | scr => rw [treeD] at td; cases td
  | .dcu a ks ts, v, d, r, h, _, rd, td, hi => by
    rw [OT.rep] at r
    obtain ⟨e, kk, us, h1, _⟩ := r
    subst e
    have hL := h a (by rw [OT.own]; exact List.mem_cons_self ..) _ h1
    have hi := hi a (by rw [OT.own]; exact List.mem_cons_self ..)
    cases rd with
    | lst => rw [treeD] at td; cases td
    | tup k => rw [hL] at k; cases k
    | dctK => rw [treeD] at td; cases td
    | dctT => rw [treeD] at td; cases td
    | obj hc k => rw [hL] at k; cases k
    | box k => rw [hi] at k; cases k
    | scr => rw [treeD] at td; cases td
  | .tup a ts, v, d, r, h, hm, rd, td, hi => by
    rw [OT.rep] at r
    obtain ⟨e, hm2, vs, h1, h2, h3⟩ := r
    subst e
    rw [OT.own] at h hi
    have hL := h a (List.mem_cons_self ..) _ h1
    have hia := hi a (List.mem_cons_self ..)
    cases rd with
    | lst => rw [treeD] at td; cases td
    | tup k z rs =>
      rw [hL] at k
      cases k
      rw [treeD] at td
      exact OT.reps.noTree h3 (fun b hb => h b (List.mem_cons_of_mem _ hb)) hm2 rs td fun b hb => hi b (List.mem_cons_of_mem _ hb)
    | dctK => rw [treeD] at td; cases td
    | dctT => rw [treeD] at td; cases td
    | obj hc k => rw [hL] at k; cases k
    | box k => rw [hia] at k; cases k
    | scr => rw [treeD] at td; cases td
theorem OT.reps.noTree {iv iv2 : IV} {L : Hp} : ∀ {ts : List OT} {vs : List V} {ds : List D}, OT.reps κ G iv H ts vs → (∀ a ∈ OT.owns ts, ∀ o, H a = some o → L a = some o) → OT.muts ts = true → Reps κ L iv2 vs ds → treeDs ds = true → (∀ a ∈ OT.owns ts, iv2 a = none) → False
  | [], _, _, _, _, hm, _, _, _ => by rw [OT.muts] at hm; cases hm
  | t :: ts, vs, ds, r, h, hm, rd, td, hi => by
    rw [OT.reps] at r
    obtain ⟨v, us, e, h1, h2⟩ := r
    subst e
    rw [OT.owns] at h hi
    rw [OT.muts, Bool.or_eq_true] at hm
    cases rd with
    | cons r1 r2 =>
      rw [treeDs, Bool.and_eq_true] at td
      rcases hm with hm | hm
      · exact OT.rep.noTree h1 (fun b hb => h b (List.mem_append_left _ hb)) hm r1 td.1 fun b hb => hi b (List.mem_append_left _ hb)
      · exact OT.reps.noTree h2 (fun b hb => h b (List.mem_append_right _ hb)) hm r2 td.2 fun b hb => hi b (List.mem_append_right _ hb)
end
mutual
/-- each own tuple in a tree holds a list -/
theorem OT.rep.tups {iv iv2 : IV} {L : Hp} : ∀ {t : OT} {v : V}, OT.rep κ G iv H t v → (∀ a ∈ t.own, ∀ o, H a = some o → L a = some o) → (∀ a ∈ t.own, iv2 a = none) → ∀ a ∈ t.own, ∀ vs ds, H a = some (.tup vs) → Reps κ L iv2 vs ds → treeDs ds = true → False
  | .leaf _, _, _, _, _, a, ha => by rw [OT.own] at ha; cases ha
  | .lst b ts, v, r, h, hi, a, ha => by
    rw [OT.rep] at r
    obtain ⟨e, vs, h1, h2, h3⟩ := r
    rw [OT.own] at h hi ha
    rcases List.mem_cons.mp ha with rfl | ha
    · intro vs' ds e; rw [h1] at e; cases e
    · exact OT.reps.tups h3 (fun b hb => h b (List.mem_cons_of_mem _ hb)) (fun b hb => hi b (List.mem_cons_of_mem _ hb)) a ha
  | .dct b ks ts, v, r, h, hi, a, ha => by
    rw [OT.rep] at r
    obtain ⟨e, kk, us, h1, hl, hz, hn, hk, h3⟩ := r
    rw [OT.own] at h hi ha
    rcases List.mem_cons.mp ha with rfl | ha
    · intro vs' ds e; rw [h1] at e; cases e
    · exact OT.reps.tups h3 (fun b hb => h b (List.mem_cons_of_mem _ hb)) (fun b hb => hi b (List.mem_cons_of_mem _ hb)) a ha
  | .dcu b ks ts, v, r, h, hi, a, ha => by
    rw [OT.rep] at r
    obtain ⟨e, kk, us, h1, hl, hz, hn, hk, h3⟩ := r
    rw [OT.own] at h hi ha
    rcases List.mem_cons.mp ha with rfl | ha
    · intro vs' ds e; rw [h1] at e; cases e
    · exact OT.reps.tups h3 (fun b hb => h b (List.mem_cons_of_mem _ hb)) (fun b hb => hi b (List.mem_cons_of_mem _ hb)) a ha
  | .tup b ts, v, r, h, hi, a, ha => by
    rw [OT.rep] at r
    obtain ⟨e, hm2, vs, h1, h2, h3⟩ := r
    rw [OT.own] at h hi ha
    rcases List.mem_cons.mp ha with rfl | ha
    · intro vs' ds e rs td
      rw [h1] at e; cases e
      exact OT.reps.noTree h3 (fun b hb => h b (List.mem_cons_of_mem _ hb)) hm2 rs td fun b hb => hi b (List.mem_cons_of_mem _ hb)
    · exact OT.reps.tups h3 (fun b hb => h b (List.mem_cons_of_mem _ hb)) (fun b hb => hi b (List.mem_cons_of_mem _ hb)) a ha
theorem OT.reps.tups {iv iv2 : IV} {L : Hp} : ∀ {ts : List OT} {vs : List V}, OT.reps κ G iv H ts vs → (∀ a ∈ OT.owns ts, ∀ o, H a = some o → L a = some o) → (∀ a ∈ OT.owns ts, iv2 a = none) → ∀ a ∈ OT.owns ts, ∀ vs ds, H a = some (.tup vs) → Reps κ L iv2 vs ds → treeDs ds = true → False
  | [], _, _, _, _, a, ha => by rw [OT.owns] at ha; cases ha
  | t :: ts, vs, r, h, hi, a, ha => by
    rw [OT.reps] at r
    obtain ⟨v, us, e, h1, h2⟩ := r
    rw [OT.owns] at h hi ha
    rcases List.mem_append.mp ha with ha | ha
    · exact OT.rep.tups h1 (fun b hb => h b (List.mem_append_left _ hb)) (fun b hb => hi b (List.mem_append_left _ hb)) a ha
    · exact OT.reps.tups h2 (fun b hb => h b (List.mem_append_right _ hb)) (fun b hb => hi b (List.mem_append_right _ hb)) a ha
end
theorem SEnvR.privO (ev : SEnvR κ H0 P G H σ env) (h : Priv env σ a) : ∃ o, H a = some o ∧ ((∃ vs, o = .lst vs) ∨ (∃ vs, o = .tup vs ∧ vs.all isKV = false) ∨ (∃ ks, o = .dK ks) ∨ ∃ ks, o = .dT ks) := by
  obtain ⟨i, s, v, h1, h2, h3⟩ := h
  obtain ⟨w, q1, q2⟩ := ev.get i s h1
  rw [h2] at q1
  cases q1
  cases s with
  | val d => exact h3.elim
  | own xs =>
    obtain ⟨b, e, vs, k1, _⟩ := q2
    rw [e] at h3
    cases h3
    exact ⟨_, k1, .inl ⟨_, rfl⟩⟩
  | ownd ks vs =>
    obtain ⟨b, e, kk, us, k1, _⟩ := q2
    rw [e] at h3
    cases h3
    exact ⟨_, k1, .inr (.inr (.inl ⟨_, rfl⟩))⟩
  | tre t => exact q2.1.dom a h3
theorem SEnvR.privT (ev : SEnvR κ H0 P G H σ env) (h : Priv env σ a) {L : Hp} {iv2 : IV} (hL : ∀ b, Priv env σ b → ∀ o, H b = some o → L b = some o) (hi : ∀ b, Priv env σ b → iv2 b = none) : ∀ vs ds, H a = some (.tup vs) → Reps κ L iv2 vs ds → treeDs ds = true → False := by
  obtain ⟨i, s, v, h1, h2, h3⟩ := h
  obtain ⟨w, q1, q2⟩ := ev.get i s h1
  rw [h2] at q1
  cases q1
  cases s with
  | val d => exact h3.elim
  | own xs =>
    obtain ⟨b, e, vs, k1, _⟩ := q2
    rw [e] at h3
    cases h3
    intro vs ds e; rw [k1] at e; cases e
  | ownd ks vs =>
    obtain ⟨b, e, kk, us, k1, _⟩ := q2
    rw [e] at h3
    cases h3
    intro vs ds e; rw [k1] at e; cases e
  | tre t => exact OT.rep.tups q2.1 (fun b hb => hL b ⟨i, _, _, h1, h2, hb⟩) (fun b hb => hi b ⟨i, _, _, h1, h2, hb⟩) a h3
theorem back_of (ev : SEnvR κ H0 P G H σ env) (gr : Grow P (lent env σ G H) H P' G' H') {o : HO} (h : G' a = some o) (h1 : ∀ vs, o ≠ .lst vs) (h2 : ∀ ks, o ≠ .dK ks) (h3 : ∀ vs, o ≠ .tup vs) (h4 : ∀ ks, o ≠ .dT ks) : back env σ G' a = some o := by
  unfold back
  by_cases hp : Priv env σ a
  · exfalso
    have hl : lent env σ G H a = H a := by unfold lent; rw [if_pos hp]
    obtain ⟨u, hu, hk⟩ := ev.privO hp
    have := gr.g a _ (hl.trans hu)
    rw [h] at this
    cases this
    rcases hk with ⟨vs, e⟩ | ⟨vs, e, _⟩ | ⟨ks, e⟩ | ⟨ks, e⟩
    · exact h1 vs e
    · exact h3 vs e
    · exact h2 ks e
    · exact h4 ks e
  · rw [if_neg hp]; exact h
theorem back_tup (ev : SEnvR κ H0 P G H σ env) (gr : Grow P (lent env σ G H) H P' G' H') {iv2 : IV} (hi : ∀ b, Priv env σ b → iv2 b = none) {us : List V} {ds : List D} (h : G' a = some (.tup us)) (r : Reps κ G' iv2 us ds) (t : treeDs ds = true) : back env σ G' a = some (.tup us) := by
  unfold back
  by_cases hp : Priv env σ a
  · exfalso
    have hL : ∀ b, Priv env σ b → ∀ o, H b = some o → G' b = some o := fun b hb o ho => gr.g b o (by unfold lent; rw [if_pos hb]; exact ho)
    obtain ⟨u, hu, _⟩ := ev.privO hp
    have e := hL a hp u hu
    rw [h] at e
    cases e
    exact ev.privT hp hL hi us ds hu r t
  · rw [if_neg hp]; exact h
section
variable {P0 : Wd} {iv : IV} (ev : SEnvR κ H0 P G H σ env) (gr : Grow P (lent env σ G H) H P' G' H') (hi : ∀ b, Priv env σ b → iv b = none)
include ev gr hi
mutual
theorem Rep.tree : ∀ {v : V} {d : D}, Rep κ G' iv v d → treeD d = true → Rep κ (back env σ G') iv v d
  | _, _, .non, _ => .non
  | _, _, .bl, _ => .bl
  | _, _, .int, _ => .int
  | _, _, .str h, _ => .str h
  | _, _, .tup h z r, t => .tup (back_tup ev gr hi h r (by rw [treeD] at t; exact t)) z (Reps.tree r (by rw [treeD] at t; exact t))
  | _, _, .obj hc h hl r, t => .obj hc (back_of ev gr h (fun _ e => nomatch e) (fun _ e => nomatch e) (fun _ e => nomatch e) (fun _ e => nomatch e)) hl (Reps.tree r (by rw [treeD] at t; exact t))
  | _, _, .box h, _ => .box h
  | _, _, .lst _ _ _, t => by rw [treeD] at t; cases t
  | _, _, .dctK _ _ _ _ _, t => by rw [treeD] at t; cases t
  | _, _, .dctT _ _ _ _ _, t => by rw [treeD] at t; cases t
  | _, _, .scr _ _, t => by rw [treeD] at t; cases t
theorem Reps.tree : ∀ {vs : List V} {ds : List D}, Reps κ G' iv vs ds → treeDs ds = true → Reps κ (back env σ G') iv vs ds
  | _, _, .nil, _ => .nil
  | _, _, .cons r t, h => .cons (Rep.tree r (by rw [treeDs, Bool.and_eq_true] at h; exact h.1)) (Reps.tree t (by rw [treeDs, Bool.and_eq_true] at h; exact h.2))
end
end
theorem priv_iv (ev : SEnvR κ H0 P G H σ env) (gr : Grow P (lent env σ G H) H P' G' H') : ∀ b, Priv env σ b → P'.iv b = none := fun b hb => by
  obtain ⟨_, _, h3, o, ho⟩ := ev.priv hb
  rw [(gr.fresh b o ho).1]; exact h3
theorem SEnvR.privK (ev : SEnvR κ H0 P G H σ env) (h : Priv env σ a) : ∃ o, H a = some o ∧ isKT o = false := by
  obtain ⟨i, s, v, h1, h2, h3⟩ := h
  obtain ⟨w, q1, q2⟩ := ev.get i s h1
  rw [h2] at q1
  cases q1
  exact q2.heldO h3
theorem back_grow (ev : SEnvR κ H0 P G H σ env) (g : Good κ P G H) (gr : Grow P (lent env σ G H) H P' G' H') (g' : Good κ P' G' H') : Grow P G H P' (back env σ G') H' ∧ Good κ P' (back env σ G') H' := by
  have hsub : ∀ a o, back env σ G' a = some o → G' a = some o := fun a o h => by
    unfold back at h
    by_cases hp : Priv env σ a
    · rw [if_pos hp] at h; cases h
    · rw [if_neg hp] at h; exact h
  refine ⟨⟨gr.fz, gr.iv, gr.n, fun a o h => ?_, gr.h, gr.dom, fun a o h => ?_⟩, ⟨fun a o h => ?_, fun a o h => g'.gh a o (hsub a o h), fun a t h => ?_, g'.fx⟩⟩
  · unfold back
    rw [if_neg fun hp => by rw [(ev.priv hp).2.1] at h; cases h]
    exact gr.g a o (lent_sub ev a o h)
  · obtain ⟨f1, f2, f3⟩ := gr.fresh a o h
    refine ⟨f1, f2, ?_⟩
    unfold back
    by_cases hp : Priv env σ a
    · rw [if_pos hp, (ev.priv hp).2.1]; exact .inl rfl
    · rw [if_neg hp]
      have e : lent env σ G H a = G a := by unfold lent; rw [if_neg hp]
      rw [e] at f3; exact f3
  · unfold back
    rw [if_neg fun hp => by
      obtain ⟨_, q2, _, _⟩ := ev.priv hp
      obtain ⟨o', q4, hk⟩ := ev.privK hp
      rw [(gr.fresh a o' q4).2.1.same hk] at h
      rw [g.pg a o h] at q2; cases q2]
    exact g'.pg a o h
  · obtain ⟨q1, o, q2, q3⟩ := g'.gi a t h
    refine ⟨?_, o, q2, q3⟩
    cases e : back env σ G' a with
    | none => rfl
    | some u => rw [hsub a u e] at q1; cases q1
end
end DL
namespace DL
open PySem PySem.Spec PyProof.Rows L2
structure DEnds where
  nx : SEnv → Nat → Prop
  rt : Sl → Nat → Prop
  bk : SEnv → Nat → Prop := fun _ _ => False
  ct : SEnv → Nat → Prop := fun _ _ => False
abbrev FS := DEnds → SEnv → Nat → Prop
abbrev OkN (κ : Kit) (P0 : Wd) (G0 H0 : Hp) (n : SEnv → Nat → Prop) (e : L2.St → Hp → Prop) : Prop := ∀ P G H σ env, Grow P0 G0 H0 P G H → Good κ P G H → SEnvR κ H0 P G H σ env → n env P.n → e σ H
structure EndsOk (κ : Kit) (P0 : Wd) (G0 H0 : Hp) (D : DEnds) (E : Ends) : Prop where
  nx : OkN κ P0 G0 H0 D.nx E.nx
  rt : ∀ v s P G H, Grow P0 G0 H0 P G H → Good κ P G H → SlR κ H0 P G H v s → D.rt s P.n → E.rt v H
  bk : OkN κ P0 G0 H0 D.bk E.bk
  ct : OkN κ P0 G0 H0 D.ct E.ct
abbrev RdS (κ : Kit) (f : FS) (t : TS) : Prop := ∀ (P0 : Wd) (G0 H0 : Hp) (P : Wd) (G H : Hp) (σ : L2.St) (env : SEnv) (D : DEnds) (E : Ends), Grow P0 G0 H0 P G H → Good κ P G H → SEnvR κ H0 P G H σ env → f D env P.n → EndsOk κ P0 G0 H0 D E → t E σ H
def D1 (κ : Kit) (X : Cx) (st : Stmt) (f : FS) : Prop := ∃ t, PS X st t ∧ RdS κ f t
def DS (κ : Kit) (X : Cx) (st : List Stmt) (f : FS) : Prop := ∃ t, PSs X st t ∧ RdS κ f t
section
variable {κ : Kit} {X : Cx} {H0 : Hp} {P : Wd} {G H : Hp} {σ : L2.St} {env : SEnv} {e : Expr} {st : Stmt} {sts : List Stmt} {f : FE} {fo : FA} {ft : FT} {s1 s2 : FS} {te : TE} {tt : TT} {pos : Pos} {es : List Expr} {far : FA}
theorem at_hide {Q : D → Nat → Prop} {R : VK} (h : RdE κ f te) (g : Good κ P G H) (ev : SEnvR κ H0 P G H σ env) (hf : f (hide env) P.n Q)
    (hR : ∀ v P' G' H' d, Grow P G H P' G' H' → Good κ P' G' H' → SEnvR κ H0 P' G' H' σ env → Rep κ G' P'.iv v d → Q d P'.n → R v H') : te σ H R :=
  h P G H σ _ Q R g ev.hide hf fun v P' G' H' d gr g' r q => hR v P' G' H' d gr g' (ev.grow gr) r q
theorem at_view {Q : D → Nat → Prop} {R : VK} (h : RdE κ f te) (g : Good κ P G H) (ev : SEnvR κ H0 P G H σ env) (hf : f (view env) P.n fun d m => treeD d = true ∧ Q d m)
    (hR : ∀ v P' G' H' d, Grow P G H P' G' H' → Good κ P' G' H' → SEnvR κ H0 P' G' H' σ env → Rep κ G' P'.iv v d → Q d P'.n → R v H') : te σ H R :=
  h P (lent env σ G H) H σ _ _ R (lent_good ev g) ev.view hf fun v P' G' H' d gr g' r q => by
    obtain ⟨gr2, g2⟩ := back_grow ev g gr g'
    exact hR v P' _ H' d gr2 g2 (ev.grow gr2) (r.tree ev gr (priv_iv ev gr) q.1) q.2
theorem at_test {Q : Bool → Nat → Prop} {R : Bool → Hp → Prop} (h : RdT κ ft tt) (g : Good κ P G H) (ev : SEnvR κ H0 P G H σ env) (hf : ft (view env) P.n Q)
    (hR : ∀ b P' G' H', Grow P G H P' G' H' → Good κ P' G' H' → SEnvR κ H0 P' G' H' σ env → Q b P'.n → R b H') : tt σ H R :=
  h P (lent env σ G H) H σ _ _ R (lent_good ev g) ev.view hf fun b P' G' H' gr g' q => by
    obtain ⟨gr2, g2⟩ := back_grow ev g gr g'
    exact hR b P' _ H' gr2 g2 (ev.grow gr2) q
theorem own_of {P' : Wd} {G' H' : Hp} {a : Addr} {vs : List V} {xs : List D} (h1 : H0 a = none) (h2 : G' a = none) (h3 : P'.iv a = none) (h4 : H' a = some (.lst vs)) (h5 : vs.length ≤ sizeLine) (h6 : Reps κ G' P'.iv vs xs) : OwnL κ H0 P' G' H' a xs := ⟨vs, h4, h5, h1, h2, h3, h6⟩
theorem at_hideO {Q : List D → Nat → Prop} {R : VK} (h : RdO κ fo te) (g : Good κ P G H) (ev : SEnvR κ H0 P G H σ env) (h0 : ∀ a, H a = none → H0 a = none) (hf : fo (hide env) P.n Q)
    (hR : ∀ a P' G' H' xs, Grow P G H P' G' H' → Good κ P' G' H' → SEnvR κ H0 P' G' H' σ env → H a = none → OwnL κ H0 P' G' H' a xs → Q xs P'.n → R (.ref a) H') : te σ H R :=
  h P G H σ _ Q R g ev.hide hf fun a P' G' H' vs xs gr g' ha hg hi hh hz r q => hR a P' G' H' xs gr g' (ev.grow gr) ha (own_of (h0 a ha) hg hi hh hz r) q
theorem at_viewO {Q : List D → Nat → Prop} {R : VK} (h : RdO κ fo te) (g : Good κ P G H) (ev : SEnvR κ H0 P G H σ env) (h0 : ∀ a, H a = none → H0 a = none) (hf : fo (view env) P.n fun xs m => xs.all treeD = true ∧ Q xs m)
    (hR : ∀ a P' G' H' xs, Grow P G H P' G' H' → Good κ P' G' H' → SEnvR κ H0 P' G' H' σ env → H a = none → OwnL κ H0 P' G' H' a xs → Q xs P'.n → R (.ref a) H') : te σ H R :=
  h P (lent env σ G H) H σ _ _ R (lent_good ev g) ev.view hf fun a P' G' H' vs xs gr g' ha hg hi hh hz r q => by
    obtain ⟨gr2, g2⟩ := back_grow ev g gr g'
    have hb : back env σ G' a = none := by
      unfold back
      split
      · rfl
      · exact hg
    exact hR a P' _ H' xs gr2 g2 (ev.grow gr2) ha (own_of (h0 a ha) hb hi hh hz (r.tree ev gr (priv_iv ev gr) (by rw [treeDs_all]; exact q.1))) q.2
/-- one slot changes, the others keep what they stand for -/
theorem SEnvR.chg (ev : SEnvR κ H0 P G H σ env) {P' : Wd} {G' H' : Hp} {i : Nat} {v : V} {s : Sl} (r : SlR κ H0 P' G' H' v s) (hk : ∀ (j : Nat) (t : Sl) (w : V), i ≠ j → env[j]? = some (some t) → σ[j]? = some (some w) → SlR κ H0 P G H w t → SlR κ H0 P' G' H' w t)
    (hn : ∀ a, Holds s v a → ∀ (j : Nat) (t : Sl) (w : V), i ≠ j → env[j]? = some (some t) → σ[j]? = some (some w) → ¬ Holds t w a) : SEnvR κ H0 P' G' H' (σ.set i (some v)) (env.set i (some s)) where
  len := by rw [List.length_set, List.length_set]; exact ev.len
  get := fun j s' h => by
    by_cases hij : i = j
    · subst hij
      rw [List.getElem?_set] at h
      simp only [if_true] at h
      split at h
      · cases h
        exact ⟨v, by rw [List.getElem?_set]; simp only [if_true]; rw [if_pos (by rw [← ev.len]; assumption)], r⟩
      · cases h
    · rw [List.getElem?_set_ne hij] at h ⊢
      obtain ⟨w, h1, h2⟩ := ev.get j s' h
      exact ⟨w, h1, hk j s' w hij h h1 h2⟩
  apart := fun j k s1 s2 w1 w2 a hjk h1 h2 e1 e2 o1 o2 => by
    by_cases nj : i = j
    · subst nj
      have nk : i ≠ k := hjk
      rw [List.getElem?_set_ne nk] at h2 e2
      rw [List.getElem?_set] at e1 h1
      simp only [if_true] at e1 h1
      split at e1
      · cases e1
        split at h1
        · cases h1
          exact hn a o1 k s2 w2 nk h2 e2 o2
        · cases h1
      · cases e1
    · rw [List.getElem?_set_ne nj] at h1 e1
      by_cases nk : i = k
      · subst nk
        rw [List.getElem?_set] at e2 h2
        simp only [if_true] at e2 h2
        split at e2
        · cases e2
          split at h2
          · cases h2
            exact hn a o2 j s1 w1 nj h1 e1 o1
          · cases h2
        · cases e2
      · rw [List.getElem?_set_ne nk] at h2 e2
        exact ev.apart j k s1 s2 w1 w2 a hjk h1 h2 e1 e2 o1 o2
theorem set_idem {σ : L2.St} {i : Nat} {v : V} (h : σ[i]? = some (some v)) : σ.set i (some v) = σ := by
  refine List.ext_getElem? fun j => ?_
  rw [List.getElem?_set]
  by_cases hij : i = j
  · subst hij
    simp only [if_true]
    rw [if_pos (List.getElem?_eq_some_iff.mp h).1, h]
  · simp only [if_neg hij]
/-- .. and stands at the same value -/
theorem SEnvR.chg0 (ev : SEnvR κ H0 P G H σ env) {P' : Wd} {G' H' : Hp} {i : Nat} {v : V} {s : Sl} (hv : σ[i]? = some (some v)) (r : SlR κ H0 P' G' H' v s) (hk : ∀ (j : Nat) (t : Sl) (w : V), i ≠ j → env[j]? = some (some t) → σ[j]? = some (some w) → SlR κ H0 P G H w t → SlR κ H0 P' G' H' w t)
    (hn : ∀ a, Holds s v a → ∀ (j : Nat) (t : Sl) (w : V), i ≠ j → env[j]? = some (some t) → σ[j]? = some (some w) → ¬ Holds t w a) : SEnvR κ H0 P' G' H' σ (env.set i (some s)) := by
  have := ev.chg (i := i) r hk hn
  rwa [set_idem hv] at this
theorem SEnvR.setX (ev : SEnvR κ H0 P G H σ env) {i : Nat} {v : V} {s : Sl} (r : SlR κ H0 P G H v s) (hn : ∀ a, Holds s v a → ¬ Priv env σ a) : SEnvR κ H0 P G H (σ.set i (some v)) (env.set i (some s)) :=
  ev.chg r (fun _ _ _ _ _ _ h => h) fun a ha j t w _ h1 h2 h3 => hn a ha ⟨j, t, w, h1, h2, h3⟩
theorem SEnvR.set (ev : SEnvR κ H0 P G H σ env) {i : Nat} {v : V} {d : D} (r : Rep κ G P.iv v d) : SEnvR κ H0 P G H (σ.set i (some v)) (env.set i (some (.val d))) :=
  ev.setX (s := .val d) r fun _ h => h.elim
theorem holds_own {xs : List D} {a b : Addr} (h : Holds (.own xs) (.ref a) b) : b = a := by
  have : V.ref a = V.ref b := h
  cases this; rfl
theorem holds_ownd {ks xs : List D} {a b : Addr} (h : Holds (.ownd ks xs) (.ref a) b) : b = a := by
  have : V.ref a = V.ref b := h
  cases this; rfl
theorem SEnvR.setO (ev : SEnvR κ H0 P G H σ env) {i : Nat} {a : Addr} {s : Sl} (r : SlR κ H0 P G H (.ref a) s) (hn : ¬ Priv env σ a) (hs : ∀ b, Holds s (.ref a) b → b = a := by intro b h; first | exact holds_own h | exact holds_ownd h) : SEnvR κ H0 P G H (σ.set i (some (.ref a))) (env.set i (some s)) :=
  ev.setX r fun b hb => by rw [hs b hb]; exact hn
theorem not_priv (ev : SEnvR κ H0 P G H σ env) {a : Addr} (h : H a = none) : ¬ Priv env σ a := fun hp => by
  obtain ⟨_, _, _, o, e⟩ := ev.priv hp
  rw [e] at h; cases h
@[simp] def sNext : FS := fun D env n => D.nx env n
def sSeq (a b : FS) : FS := fun D env n => a { D with nx := fun e m => b D e m } env n
theorem ds_nil : DS κ X [] sNext := ⟨_, pss_nil, fun P0 G0 H0 P G H σ env D E gr g ev hf ok => ok.nx P G H σ env gr g ev hf⟩
theorem ds_cons (h1 : D1 κ X st s1) (h2 : DS κ X sts s2) : DS κ X (st :: sts) (sSeq s1 s2) := by
  obtain ⟨t1, p1, q1⟩ := h1
  obtain ⟨t2, p2, q2⟩ := h2
  refine ⟨_, pss_cons p1 p2, fun P0 G0 H0 P G H σ env D E gr g ev hf ok => ?_⟩
  exact q1 P0 G0 H0 P G H σ env _ _ gr g ev hf ⟨fun P' G' H' σ' env' gr' g' ev' h => q2 P0 G0 H0 P' G' H' σ' env' D E gr' g' ev' h ok, ok.rt, ok.bk, ok.ct⟩
theorem ds_one (h1 : D1 κ X st s1) : DS κ X [st] s1 := by
  obtain ⟨t1, p1, q1⟩ := h1
  exact ⟨_, pss_one p1, q1⟩
@[simp] def sNever : FS := fun _ _ _ => False
theorem d1_never : D1 κ X st sNever := ⟨_, ps_never, fun P0 G0 H0 P G H σ env D E gr g ev hf ok => hf⟩
@[simp] def sBreak : FS := fun D env n => D.bk env n
@[simp] def sCont : FS := fun D env n => D.ct env n
@[simp] def sAsg (i : Nat) (f : FE) : FS := fun D env n => f (hide env) n fun d m => D.nx (env.set i (some (.val d))) m
@[simp] def sAsgV (i : Nat) (f : FE) : FS := fun D env n => f (view env) n fun d m => treeD d = true ∧ D.nx (env.set i (some (.val d))) m
@[simp] def sAsgO (i : Nat) (f : FA) : FS := fun D env n => f (hide env) n fun xs m => D.nx (env.set i (some (.own xs))) m
@[simp] def sAsgOV (i : Nat) (f : FA) : FS := fun D env n => f (view env) n fun xs m => xs.all treeD = true ∧ D.nx (env.set i (some (.own xs))) m
section
variable {x : Str} {p2 : Pos}
theorem asg_lift {i : Nat} (h : RdE κ f te) : RdS κ (sAsg i f) (tAsg te (gName i)) := fun P0 G0 H0 P G H σ env D E gr g ev hf ok =>
  at_hide h g ev hf fun v P' G' H' d gr' g' ev' r q => ok.nx P' G' H' _ _ (gr.trans gr') g' (ev'.set r) q
theorem asgO_lift {i : Nat} (h : RdO κ fo te) : RdS κ (sAsgO i fo) (tAsg te (gName i)) := fun P0 G0 H0 P G H σ env D E gr g ev hf ok =>
  at_hideO h g ev (fun a ha => gr.back ha) hf fun a P' G' H' xs gr' g' ev' ha o q => ok.nx P' G' H' _ _ (gr.trans gr') g' (ev'.setO (s := .own xs) ⟨a, rfl, o⟩ (not_priv ev ha)) q
variable {i : Nat} (hN : X.N.Nodup) (hi : X.N[i]? = some x) (hx : Loc X.env.scope x) (hs : swapsWith e (some (.Name x p2)) pos.line X.env = pure false) (hfn : X.fn x = true ∨ X.env.scope.names.lookup x = some .local)
include hN hi hx hs hfn
theorem d1_asg (h : DE κ X e f) : D1 κ X (.Assign [.Name x p2] e pos) (sAsg i f) := by
  obtain ⟨t, p, q⟩ := h
  exact ⟨_, ps_set hN hi hx p hs hfn, asg_lift q⟩
theorem d1_asgO (h : DO κ X e fo) : D1 κ X (.Assign [.Name x p2] e pos) (sAsgO i fo) := by
  obtain ⟨t, p, q⟩ := h
  exact ⟨_, ps_set hN hi hx p hs hfn, asgO_lift q⟩
end
@[simp] def sRet (f : FE) : FS := fun D env n => f (hide env) n fun d m => D.rt (.val d) m
@[simp] def sRetV (f : FE) : FS := fun D env n => f (view env) n fun d m => treeD d = true ∧ D.rt (.val d) m
@[simp] def sRetO (f : FA) : FS := fun D env n => f (hide env) n fun xs m => D.rt (.own xs) m
@[simp] def sRetOV (f : FA) : FS := fun D env n => f (view env) n fun xs m => xs.all treeD = true ∧ D.rt (.own xs) m
theorem d1_ret (h : DE κ X e f) : D1 κ X (.Return (some e) pos) (sRet f) := by
  obtain ⟨t, p, q⟩ := h
  exact ⟨_, ps_ret p, fun P0 G0 H0 P G H σ env D E gr g ev hf ok => at_hide q g ev hf fun v P' G' H' d gr' g' ev' r hq => ok.rt v (.val d) P' G' H' (gr.trans gr') g' r hq⟩
theorem d1_retV (h : DE κ X e f) : D1 κ X (.Return (some e) pos) (sRetV f) := by
  obtain ⟨t, p, q⟩ := h
  exact ⟨_, ps_ret p, fun P0 G0 H0 P G H σ env D E gr g ev hf ok => at_view q g ev hf fun v P' G' H' d gr' g' ev' r hq => ok.rt v (.val d) P' G' H' (gr.trans gr') g' r hq⟩
theorem d1_retO (h : DO κ X e fo) : D1 κ X (.Return (some e) pos) (sRetO fo) := by
  obtain ⟨t, p, q⟩ := h
  exact ⟨_, ps_ret p, fun P0 G0 H0 P G H σ env D E gr g ev hf ok => at_hideO q g ev (fun a ha => gr.back ha) hf fun a P' G' H' xs gr' g' ev' ha o hq => ok.rt _ (.own xs) P' G' H' (gr.trans gr') g' ⟨a, rfl, o⟩ hq⟩
theorem d1_retOV (h : DO κ X e fo) : D1 κ X (.Return (some e) pos) (sRetOV fo) := by
  obtain ⟨t, p, q⟩ := h
  exact ⟨_, ps_ret p, fun P0 G0 H0 P G H σ env D E gr g ev hf ok => at_viewO q g ev (fun a ha => gr.back ha) hf fun a P' G' H' xs gr' g' ev' ha o hq => ok.rt _ (.own xs) P' G' H' (gr.trans gr') g' ⟨a, rfl, o⟩ hq⟩
/-- return x, x an own list or any slot -/
@[simp] def sRetS (i : Nat) : FS := fun D env n => ∃ s, env[i]? = some (some s) ∧ D.rt s n
theorem d1_retS {i : Nat} {x : Str} {p2 : Pos} (hN : X.N[i]? = some x) (hv : Vis X.env.scope x) (hd : (x == ("__debug__" : Str)) = false := by decide) (hcd : (x == ("__classdict__" : Str)) = false := by decide) : D1 κ X (.Return (some (.Name x p2)) pos) (sRetS i) := by
  refine ⟨_, ps_ret (pe_var hN hv hd hcd), fun P0 G0 H0 P G H σ env D E gr g ev hf ok => ?_⟩
  obtain ⟨s, h1, h2⟩ := hf
  obtain ⟨v, q1, q2⟩ := ev.get i s h1
  exact ⟨v, q1, ok.rt v s P G H gr g q2 h2⟩
@[simp] def sRetN : FS := fun D _ n => D.rt (.val .non) n
@[simp] def sDrop (f : FE) : FS := fun D env n => f (hide env) n fun _ m => D.nx env m
theorem d1_expr (h : DE κ X e f) (hs : swapsWith e none pos.line X.env = pure false := by rfl) : D1 κ X (.Expr e pos) (sDrop f) := by
  obtain ⟨t, p, q⟩ := h
  exact ⟨_, ps_expr p hs, fun P0 G0 H0 P G H σ env D E gr g ev hf ok => at_hide q g ev hf fun v P' G' H' d gr' g' ev' r hq => ok.nx P' G' H' σ env (gr.trans gr') g' ev' hq⟩
@[simp] def sIf (c : FT) (a b : FS) : FS := fun D env n => c (view env) n fun t m => if t = true then a D env m else b D env m
theorem d1_if {b1 b2 : List Stmt} (hc : DT κ X e ft) (h1 : DS κ X b1 s1) (h2 : DS κ X b2 s2) : D1 κ X (.If e b1 b2 pos) (sIf ft s1 s2) := by
  obtain ⟨t, p, q⟩ := hc
  obtain ⟨t1, p1, q1⟩ := h1
  obtain ⟨t2, p2, q2⟩ := h2
  refine ⟨_, ps_if p p1 p2, fun P0 G0 H0 P G H σ env D E gr g ev hf ok => at_test q g ev hf fun b P' G' H' gr' g' ev' hq => ?_⟩
  cases b with
  | true => exact q1 P0 G0 H0 P' G' H' σ env D E (gr.trans gr') g' ev' hq ok
  | false => exact q2 P0 G0 H0 P' G' H' σ env D E (gr.trans gr') g' ev' hq ok
end
end DL
namespace DL
open PySem PySem.Spec PyProof.Rows L2
section
variable {κ : Kit} {X : Cx} {H0 : Hp} {P : Wd} {G H : Hp} {σ : L2.St} {env : SEnv} {a b e : Expr} {st : Stmt} {sts : List Stmt} {fa fb f : FE} {fo : FA} {ft : FT} {s1 s2 : FS} {te : TE} {tt : TT} {pos : Pos} {es : List Expr} {far : FA}
theorem SEnvR.freeze (ev : SEnvR κ H0 P G H σ env) (g : Good κ P G H) {i : Nat} {xs : List D} (h : env[i]? = some (some (.own xs))) :
    ∃ G', (∀ P0 G0, Grow P0 G0 H0 P G H → Grow P0 G0 H0 P G' H) ∧ Good κ P G' H ∧ SEnvR κ H0 P G' H σ (env.set i (some (.val (.lst xs)))) := by
  obtain ⟨v, q1, a, ea, vs, h1, h2, h3, h4, h5, h6⟩ := ev.get i _ h
  subst ea
  refine ⟨upd G a (.lst vs), fun P0 G0 gr => gr.frz h3 h4, g.frz h4 h5 h1, ?_⟩
  have hsub : ∀ b o, G b = some o → upd G a (.lst vs) b = some o := fun b o e => by rw [upd_ne (ne_of_none e h4)]; exact e
  refine ev.chg0 (s := .val (.lst xs)) q1 (.lst upd_same h2 (reps_frz h4 h6)) (fun j t w hij hj hw r => ?_) fun _ h => h.elim
  refine r.to hsub (fun _ _ h => h) fun b hb => ?_
  obtain ⟨k1, k2, k3, _⟩ := r.held hb
  have hba : b ≠ a := fun e => by subst e; exact ev.apart i j _ _ _ _ b hij h hj q1 hw rfl hb
  exact ⟨fun _ h => h, k1, by rw [upd_ne hba]; exact k2, k3⟩
/-- ahead of a statement: the list at slot i is a value from here on -/
@[simp] def sFrz (i : Nat) (s : FS) : FS := fun D env n => ∃ xs, env[i]? = some (some (.own xs)) ∧ s D (env.set i (some (.val (.lst xs)))) n
theorem d1_frz (i : Nat) (h : D1 κ X st s1) : D1 κ X st (sFrz i s1) := by
  obtain ⟨t, p, q⟩ := h
  refine ⟨t, p, fun P0 G0 H0 P G H σ env D E gr g ev hf ok => ?_⟩
  obtain ⟨xs, h1, h2⟩ := hf
  obtain ⟨G', w1, w2, w3⟩ := ev.freeze g h1
  exact q P0 G0 H0 P G' H σ _ D E (w1 P0 G0 gr) w2 w3 h2 ok
theorem SEnvR.put (ev : SEnvR κ H0 P G H σ env) {i : Nat} {xs ys : List D} {a : Addr} {us : List V} (h : env[i]? = some (some (.own xs))) (hs : σ[i]? = some (some (.ref a))) (hz : us.length ≤ sizeLine) (r : Reps κ G P.iv us ys) :
    SEnvR κ H0 P G (upd H a (.lst us)) σ (env.set i (some (.own ys))) := by
  obtain ⟨v, q1, b, eb, vs, h1, h2, h3, h4, h5, h6⟩ := ev.get i _ h
  subst eb
  rw [hs] at q1
  cases q1
  have ap : ∀ b, Holds (.own ys) (.ref a) b → ∀ (j : Nat) (t : Sl) (w : V), i ≠ j → env[j]? = some (some t) → σ[j]? = some (some w) → ¬ Holds t w b := fun b hb j t w hij hj hw ht => by
    rw [holds_own hb] at ht
    exact ev.apart i j _ _ _ _ a hij h hj hs hw rfl ht
  refine ev.chg0 (s := .own ys) hs ⟨_, rfl, us, upd_same, hz, h3, h4, h5, r⟩ (fun j t w hij hj hw r => ?_) ap
  refine r.to (fun _ _ h => h) (fun _ _ h => h) fun b hb => ?_
  obtain ⟨k1, k2, k3, _⟩ := r.held hb
  have hba : b ≠ a := fun e => by subst e; exact ap _ rfl j t w hij hj hw hb
  exact ⟨fun o ho => by rw [upd_ne hba]; exact ho, k1, k2, k3⟩
/-- x.append(e) -/
@[simp] def sApp (i : Nat) (f : FE) : FS := fun D env n => ∃ xs, env[i]? = some (some (.own xs)) ∧ f (hide env) n fun d m => xs.length < 16777216 ∧ D.nx (env.set i (some (.own (xs ++ [d])))) m
@[simp] def sAppV (i : Nat) (f : FE) : FS := fun D env n => ∃ xs, env[i]? = some (some (.own xs)) ∧ f (view env) n fun d m => treeD d = true ∧ xs.length < 16777216 ∧ D.nx (env.set i (some (.own (xs ++ [d])))) m
theorem tyV_list {K : PySem.W.Frag} {a : Addr} {vs : List V} (h : H a = some (.lst vs)) : tyV K "list" (.ref a) H := .inl ⟨rfl, _, SqL.of h⟩
theorem app_end {P0 : Wd} {G0 : Hp} {d : D} {xs : List D} {D : DEnds} {E : Ends} {P' : Wd} {G' H' : Hp} {i : Nat} {v : V} {a : Addr} (gr : Grow P0 G0 H0 P' G' H') (g : Good κ P' G' H') (ev : SEnvR κ H0 P' G' H' σ env) (h : env[i]? = some (some (.own xs))) (hs : σ[i]? = some (some (.ref a))) (hz : xs.length < 16777216) (r : Rep κ G' P'.iv v d) (ok : EndsOk κ P0 G0 H0 D E) (q : D.nx (env.set i (some (.own (xs ++ [d])))) P'.n) :
    ∃ l ys y, V.ref a = .ref l ∧ [v] = [y] ∧ H' l = some (.lst ys) ∧ ys.length < sizeLine ∧ E.nx σ (upd H' l (.lst (ys ++ [y]))) := by
  obtain ⟨u, q1, b, eb, vs, h1, h2, h3, h4, h5, h6⟩ := ev.get i _ h
  subst eb
  rw [hs] at q1
  cases q1
  have hl : sizeLine = 16777216 := sizeLine_eq
  have hlen : vs.length = xs.length := h6.length
  refine ⟨a, vs, v, rfl, rfl, h1, by omega, ok.nx P' G' _ σ _ (gr.put h3) (g.put h4 h5) (ev.put h hs (by rw [List.length_append]; show vs.length + 1 ≤ sizeLine; omega) (h6.append (.cons r .nil))) q⟩
theorem app_lift {i : Nat} {tx : TE} {K : PySem.W.Frag} (hx : tx = tVar i) (h : RdE κ f te) : RdS κ (sApp i f) (tDrop (tBM K "list" rAppend tx (tCons te tNil))) := fun P0 G0 H0 P G H σ env D E gr g ev hf ok => by
  subst hx
  obtain ⟨xs, h1, hf⟩ := hf
  obtain ⟨u, q1, b, eb, vs, k1, k2, k3, k4, k5, k6⟩ := ev.get i _ h1
  subst eb
  refine ⟨_, q1, tyV_list k1, ?_⟩
  refine at_hide h g ev hf fun v P' G' H' d gr' g' ev' r q => ?_
  exact app_end (gr.trans gr') g' ev' h1 q1 q.1 r ok q.2
theorem appV_lift {i : Nat} {tx : TE} {K : PySem.W.Frag} (hx : tx = tVar i) (h : RdE κ f te) : RdS κ (sAppV i f) (tDrop (tBM K "list" rAppend tx (tCons te tNil))) := fun P0 G0 H0 P G H σ env D E gr g ev hf ok => by
  subst hx
  obtain ⟨xs, h1, hf⟩ := hf
  obtain ⟨u, q1, b, eb, vs, k1, k2, k3, k4, k5, k6⟩ := ev.get i _ h1
  subst eb
  refine ⟨_, q1, tyV_list k1, ?_⟩
  refine at_view h g ev hf fun v P' G' H' d gr' g' ev' r q => ?_
  exact app_end (gr.trans gr') g' ev' h1 q1 q.1 r ok q.2
section
variable {x : Str} {p2 apos cpos : Pos} {i : Nat}
theorem d1_app (i : Nat) (hN : X.N[i]? = some x) (hv : Vis X.env.scope x) (h : DE κ X e f) (hd : (x == ("__debug__" : Str)) = false := by decide) (hcd : (x == ("__classdict__" : Str)) = false := by decide)
    (hbase : attributeBase (.Name x p2) "append" X.env (eval (.Name x p2) X.env) = eval (.Name x p2) X.env := by rfl)
    (hfew : ((backTo cpos (starEach [e] X.env)).all (fun x => !x.1) && (backToKw cpos (keywordEach [] X.env)).all (fun x => x.1.isSome) && decide ([e].length + ([] : List Keyword).length + (if ([] : List Keyword).isEmpty then 0 else 1) < 30)) = true := by rfl)
    (hline : (apos.endLine == cpos.line) = true := by rfl) (hs : starEach [e] X.env = (false, eval e X.env) :: starEach [] X.env := by rfl) (hplain : (backTo cpos (starEach [] X.env)).any (·.1) = false := by rfl)
    (hsw : swapsWith (.Call (.Attribute (.Name x p2) "append" apos) [e] [] cpos) none pos.line X.env = pure false := by rfl) :
    D1 κ X (.Expr (.Call (.Attribute (.Name x p2) "append" apos) [e] [] cpos) pos) (sApp i f) := by
  obtain ⟨t, p, q⟩ := h
  exact ⟨_, ps_expr (pe_bm PySem.F.plainAttrs_list PySem.F.slot_list_append PySem.F.type_list_append mt_append (pe_var hN hv hd hcd) (pa_cons p pa_nil hs) hbase hfew hline hs hplain) hsw, app_lift rfl q⟩
theorem d1_appV (i : Nat) (hN : X.N[i]? = some x) (hv : Vis X.env.scope x) (h : DE κ X e f) (hd : (x == ("__debug__" : Str)) = false := by decide) (hcd : (x == ("__classdict__" : Str)) = false := by decide)
    (hbase : attributeBase (.Name x p2) "append" X.env (eval (.Name x p2) X.env) = eval (.Name x p2) X.env := by rfl)
    (hfew : ((backTo cpos (starEach [e] X.env)).all (fun x => !x.1) && (backToKw cpos (keywordEach [] X.env)).all (fun x => x.1.isSome) && decide ([e].length + ([] : List Keyword).length + (if ([] : List Keyword).isEmpty then 0 else 1) < 30)) = true := by rfl)
    (hline : (apos.endLine == cpos.line) = true := by rfl) (hs : starEach [e] X.env = (false, eval e X.env) :: starEach [] X.env := by rfl) (hplain : (backTo cpos (starEach [] X.env)).any (·.1) = false := by rfl)
    (hsw : swapsWith (.Call (.Attribute (.Name x p2) "append" apos) [e] [] cpos) none pos.line X.env = pure false := by rfl) :
    D1 κ X (.Expr (.Call (.Attribute (.Name x p2) "append" apos) [e] [] cpos) pos) (sAppV i f) := by
  obtain ⟨t, p, q⟩ := h
  exact ⟨_, ps_expr (pe_bm PySem.F.plainAttrs_list PySem.F.slot_list_append PySem.F.type_list_append mt_append (pe_var hN hv hd hcd) (pa_cons p pa_nil hs) hbase hfew hline hs hplain) hsw, appV_lift rfl q⟩
end
@[simp] def sAug (φ : D → D → Nat → (D → Nat → Prop) → Prop) (i : Nat) (f : FE) : FS := fun D env n => ∃ d, env[i]? = some (some (.val d)) ∧ f (view env) n fun y m => treeD y = true ∧ φ d y m fun z k => D.nx (env.set i (some (.val z))) k
abbrev SG := D → SEnv → (SEnv → Prop) → Prop
def LiftSG (κ : Kit) (g : TG) (φ : SG) : Prop := ∀ (H0 : Hp) (P : Wd) (G H : Hp) (v : V) (d : D) (σ : L2.St) (env : SEnv) (Q : SEnv → Prop) (R : L2.St → Hp → Prop), Good κ P G H → SEnvR κ H0 P G H σ env → Rep κ G P.iv v d → φ d env Q →
  (∀ σ' env', SEnvR κ H0 P G H σ' env' → Q env' → R σ' H) → g v σ H R
def SGs := List D → SEnv → (SEnv → Prop) → Prop
def LiftSGs (κ : Kit) (g : TGs) (φ : SGs) : Prop := ∀ (H0 : Hp) (P : Wd) (G H : Hp) (v : List V) (d : List D) (σ : L2.St) (env : SEnv) (Q : SEnv → Prop) (R : L2.St → Hp → Prop), Good κ P G H → SEnvR κ H0 P G H σ env → Reps κ G P.iv v d → φ d env Q →
  (∀ σ' env', SEnvR κ H0 P G H σ' env' → Q env' → R σ' H) → g v σ H R
def SD (κ : Kit) (X : Cx) (tg : Expr) (φ : SG) : Prop := ∃ g, PG X tg g ∧ LiftSG κ g φ
def SDs (κ : Kit) (X : Cx) (tgs : List Expr) (φ : SGs) : Prop := ∃ g, PGs X tgs g ∧ LiftSGs κ g φ
@[simp] def nN (i : Nat) : SG := fun d env Q => Q (env.set i (some (.val d)))
def nsNil : SGs := fun ds env Q => match ds with
  | [] => Q env
  | _ => False
def nsCons (φ : SG) (ψ : SGs) : SGs := fun ds env Q => match ds with
  | d :: r => φ d env fun env' => ψ r env' Q
  | [] => False
def nT (n : Nat) (ψ : SGs) : SG := fun d env Q => match d with
  | .tup ds => ds.length = n ∧ ψ ds env Q
  | _ => False
theorem sd_name (i : Nat) {x : Str} (hN : X.N.Nodup) (hi : X.N[i]? = some x) (hx : Loc X.env.scope x) (hf : X.fn x = true ∨ X.env.scope.names.lookup x = some .local := by first | exact .inl rfl | exact .inr rfl | assumption) : SD κ X (.Name x pos) (nN i) :=
  ⟨_, pg_name hN hi hx hf, fun H0 P G H v d σ env Q R g ev r hf hR => hR _ _ (ev.set r) hf⟩
theorem sds_nil : SDs κ X [] nsNil := ⟨_, pgs_nil, fun H0 P G H v d σ env Q R g ev r hf hR => by
  cases r with
  | nil => exact ⟨rfl, hR _ _ ev hf⟩
  | cons r t => exact False.elim hf⟩
theorem sds_cons {φ : SG} {ψ : SGs} (h1 : SD κ X e φ) (h2 : SDs κ X es ψ) (hs : (assignEach (e :: es) X.env).map (·.2) = assign e X.env :: (assignEach es X.env).map (·.2) := by rfl) : SDs κ X (e :: es) (nsCons φ ψ) := by
  obtain ⟨g, p, q⟩ := h1
  obtain ⟨gs, ps, qs⟩ := h2
  refine ⟨_, pgs_cons p ps hs, fun H0 P G H v d σ env Q R g ev r hf hR => ?_⟩
  cases r with
  | nil => exact False.elim hf
  | @cons v0 d0 vs0 ds r t => exact ⟨_, _, rfl, q H0 P G H _ d0 σ env _ _ g ev r hf fun σ1 env1 ev1 hf1 => qs H0 P G H _ ds σ1 env1 Q R g ev1 t hf1 hR⟩
theorem sd_tup {k n : Nat} {ψ : SGs} (hc : X.calm = true) (h : SDs κ X es ψ) (hn : (assignEach es X.env).length = n := by rfl) (hst : (assignEach es X.env).findIdx? (·.1) = none := by rfl) : SD κ X (.Tuple es k pos) (nT n ψ) := by
  obtain ⟨gs, ps, qs⟩ := h
  refine ⟨_, pg_tup hc ps hn hst, fun H0 P G H v d σ env Q R g ev r hf hR => ?_⟩
  unfold nT at hf
  split at hf
  · obtain ⟨hn, hf⟩ := hf
    cases r with
    | tup ht z r => exact ⟨_, _, rfl, SqT.of (g.gx ht rfl), by rw [r.length]; exact hn, qs H0 P G H _ _ σ env Q R g ev r hf hR⟩
  · exact hf.elim
/-- a, b = e -/
@[simp] def sUnp (φ : SG) (f : FE) : FS := fun D env n => f (hide env) n fun d m => φ d env fun env' => D.nx env' m
theorem d1_unp {tg : Expr} {φ : SG} (h : DE κ X e f) (hg : SD κ X tg φ) (hs : swapsWithSole [tg] e pos.line X.env = pure false := by rfl) (hw : swappedStores [tg] e X.env = pure none := by rfl) (h1 : (assignEach [tg] X.env).map (·.2) = [assign tg X.env] := by rfl) : D1 κ X (.Assign [tg] e pos) (sUnp φ f) := by
  obtain ⟨t, p, q⟩ := h
  obtain ⟨g, pg, qg⟩ := hg
  exact ⟨_, ps_asg p pg hs hw h1, fun P0 G0 H0 P G H σ env D E gr g ev hf ok => at_hide q g ev hf fun v P' G' H' d gr' g' ev' r hq => qg H0 P' G' H' v d σ env _ _ g' ev' r hq fun σ' env' ev2 hq2 => ok.nx P' G' H' σ' env' (gr.trans gr') g' ev2 hq2⟩
def forD (tg : SG) (body : FS) (D : DEnds) : List DL.D → SEnv → Nat → Prop
  | [], env, n => D.nx env n
  | x :: xs, env, n => tg x env fun env' => body { nx := fun e m => forD tg body D xs e m, ct := fun e m => forD tg body D xs e m, bk := D.nx, rt := D.rt } env' n
@[simp] def sFor (it : FA) (tg : SG) (body : FS) : FS := fun D env n => it (hide env) n fun xs m => forD tg body D xs env m
/-- a loop's turn starts where it stands -/
theorem Grow.turn {P0 P : Wd} {G0 H0 G H : Hp} (gr : Grow P0 G0 H0 P G H) : Grow P G H0 P G H :=
  ⟨fun _ _ h => h, fun _ _ h => h, Nat.le_refl _, fun _ _ h => h, fun a o h n => gr.h a o h (by rw [← (gr.fresh a o h).1]; exact n), gr.dom, fun _ _ _ => ⟨rfl, .inl rfl, .inl rfl⟩⟩
theorem Grow.behind {P0 P P1 : Wd} {G0 H0 G H G1 H1 : Hp} (gr : Grow P0 G0 H0 P G H) (g1 : Grow P G H0 P1 G1 H1) : Grow P0 G0 H0 P1 G1 H1 :=
  ⟨fun a o h => g1.fz a o (gr.fz a o h), fun a o h => g1.iv a o (gr.iv a o h), Nat.le_trans gr.n g1.n, fun a o h => g1.g a o (gr.g a o h), fun a o h n => g1.h a o h (by rw [(gr.fresh a o h).1]; exact n), g1.dom, fun a o h => by
    obtain ⟨a1, a2, a3⟩ := gr.fresh a o h
    obtain ⟨b1, b2, b3⟩ := g1.fresh a o h
    refine ⟨b1.trans a1, ?_, ?_⟩
    · rcases b2 with b2 | ⟨k1, k2, k3⟩
      · rcases a2 with a2 | ⟨j1, j2, j3⟩
        · exact .inl (b2.trans a2)
        · exact .inr ⟨j1, j2, g1.fz a _ j3⟩
      · exact .inr ⟨k1, by rw [← a1]; exact k2, k3⟩
    · rcases b3 with b3 | ⟨k1, k2, k3⟩
      · rcases a3 with a3 | ⟨j1, j2, j3⟩
        · exact .inl (b3.trans a3)
        · exact .inr ⟨j1, j2, g1.g a _ j3⟩
      · exact .inr ⟨k1, by rw [← a1]; exact k2, k3⟩⟩
/-- a dict that was locked is let again: what has grown -/
theorem Grow.unlockB {P P1 : Wd} {G G1 H0 H1 : Hp} {a : Addr} {u : HO} {od : Obj} (hu : ∀ o, H0 a = some o → o = u) (gr : Grow P G (upd H0 a (.frz od u)) P1 G1 H1) : Grow P G H0 P1 G1 (upd H1 a u) where
  fz := gr.fz
  iv := gr.iv
  n := gr.n
  g := gr.g
  h := fun b o e n => by
    by_cases hb : b = a
    · subst hb
      rw [hu o e]; exact upd_same
    · rw [upd_ne hb]; exact gr.h b o (by rw [upd_ne hb]; exact e) n
  dom := fun b o e => by
    by_cases hb : b = a
    · subst hb; exact ⟨_, upd_same⟩
    · rw [upd_ne hb]; exact gr.dom b o (by rw [upd_ne hb]; exact e)
  fresh := fun b o e => by
    by_cases hb : b = a
    · subst hb
      obtain ⟨q1, q2, q3⟩ := gr.fresh b _ upd_same
      exact ⟨q1, .inl (q2.same rfl), .inl (q3.same rfl)⟩
    · exact gr.fresh b o (by rw [upd_ne hb]; exact e)
theorem Grow.lockB {P : Wd} {G H0 H : Hp} {a : Addr} {u : HO} {od : Obj} (gr : Grow P G H0 P G H) : Grow P G (upd H0 a (.frz od u)) P G (upd H a (.frz od u)) where
  fz := fun _ _ h => h
  iv := fun _ _ h => h
  n := Nat.le_refl _
  g := fun _ _ h => h
  h := fun b o e n => by
    by_cases hb : b = a
    · subst hb; rw [upd_same] at e ⊢; exact e
    · rw [upd_ne hb] at e ⊢; exact gr.h b o e n
  dom := fun b o e => by
    by_cases hb : b = a
    · subst hb; exact ⟨_, upd_same⟩
    · rw [upd_ne hb] at e ⊢; exact gr.dom b o e
  fresh := fun _ _ _ => ⟨rfl, .inl rfl, .inl rfl⟩
theorem SlR.swap {H1 H2 : Hp} {P : Wd} {G G' H H' : Hp} {v : V} {s : Sl} (h : ∀ b o, H b = some o → H1 b = none → G b = none → H2 b = none ∧ H' b = some o) (r : SlR κ H1 P G H v s) : SlR κ H2 P G H' v s :=
  r.to (fun _ _ h => h) (fun _ _ h => h) fun b hb => by
    obtain ⟨k1, k2, k3, o, ho⟩ := r.held hb
    obtain ⟨q1, q2⟩ := h b o ho k1 k2
    exact ⟨fun u hu => (h b u hu k1 k2).2, q1, k2, k3⟩
theorem SEnvR.swap {H1 H2 : Hp} {P : Wd} {G H H' : Hp} {σ : L2.St} {env : SEnv} (h : ∀ b o, H b = some o → H1 b = none → G b = none → H2 b = none ∧ H' b = some o) (ev : SEnvR κ H1 P G H σ env) : SEnvR κ H2 P G H' σ env :=
  ⟨ev.len, fun i s hi => by
    obtain ⟨v, q1, q2⟩ := ev.get i s hi
    exact ⟨v, q1, q2.swap (G' := G) h⟩, ev.apart⟩
theorem for_body {J : It} {S : Hp → Prop} {g : TG} {tb : TS} {φ : SG} {P0 P : Wd} {G0 H0 G H : Hp} {D : DEnds} {E : Ends} {xs : List DL.D} (gr : Grow P0 G0 H0 P G H) (g0 : Good κ P G H) (ev : SEnvR κ H0 P G H σ env) (it : IterS κ S J P G xs) (hS : ∀ P' G' H', Grow P0 G0 H0 P' G' H' → S H') (hg : LiftSG κ g φ) (hb : RdS κ s1 tb)
    (hq : forD φ s1 D xs env P.n) (ok : EndsOk κ P0 G0 H0 D E) : tFor (fun _ H R => R J H) g tb E σ H := by
  refine ⟨fun i m σ' H' => ∃ P' G' env', Ext P G P' G' ∧ Good κ P' G' H' ∧ Grow P0 G0 H0 P' G' H' ∧ SEnvR κ H0 P' G' H' σ' env' ∧ i ≤ xs.length ∧ m = xs.length - i ∧ forD φ s1 D (xs.drop i) env' P'.n, ⟨xs.length, P, G, env, .refl, g0, gr, ev, Nat.zero_le _, rfl, hq⟩, ?_⟩
  rintro i m σ' H' ⟨P', G', env', exb, g', gr0', ev', hix, rfl, hgo⟩
  by_cases hlt : i < xs.length
  · obtain ⟨go, yl⟩ := (it.2 i P' G' H' exb g' (hS _ _ _ gr0')).1 hlt
    refine .inr ⟨go, fun σ2 H2 => ∃ P2 G2 env2, Ext P G P2 G2 ∧ Good κ P2 G2 H2 ∧ Grow P0 G0 H0 P2 G2 H2 ∧ SEnvR κ H0 P2 G2 H2 σ2 env2 ∧ forD φ s1 D (xs.drop (i + 1)) env2 P2.n, fun σ2 H2 hN => ?_, fun v H2 hy => ?_⟩
    · obtain ⟨P2, G2, env2, q1, q2, q3, q4, q5⟩ := hN
      exact ⟨xs.length - (i + 1), by omega, P2, G2, env2, q1, q2, q3, q4, hlt, rfl, q5⟩
    · obtain ⟨G2, d, gr2, g2, hxd, rd⟩ := yl v H2 hy
      have hdrop : xs.drop i = d :: xs.drop (i + 1) := by
        rw [List.drop_eq_getElem_cons hlt]
        rw [List.getElem?_eq_getElem hlt] at hxd
        cases hxd; rfl
      rw [hdrop] at hgo
      have grt := gr0'.trans gr2
      have ext := exb.trans gr2.ext
      refine hg H0 P' G2 H2 v d σ' env' _ _ g2 (ev'.grow gr2) rd hgo fun σ1 env1 ev1 hf1 => ?_
      refine hb P' G2 H0 P' G2 H2 σ1 env1 _ _ grt.turn g2 ev1 hf1 ⟨?_, ?_, ?_, ?_⟩
      · exact fun P3 G3 H3 σ3 env3 gr3 g3 ev3 h3 => ⟨P3, G3, env3, ext.trans gr3.ext, g3, grt.behind gr3, ev3, h3⟩
      · exact fun v s P3 G3 H3 gr3 g3 r3 h3 => ok.rt v s P3 G3 H3 (grt.behind gr3) g3 r3 h3
      · exact fun P3 G3 H3 σ3 env3 gr3 g3 ev3 h3 => ok.nx P3 G3 H3 σ3 env3 (grt.behind gr3) g3 ev3 h3
      · exact fun P3 G3 H3 σ3 env3 gr3 g3 ev3 h3 => ⟨P3, G3, env3, ext.trans gr3.ext, g3, grt.behind gr3, ev3, h3⟩
  · have e : i = xs.length := by omega
    subst e
    rw [List.drop_length] at hgo
    exact .inl ⟨(it.2 _ P' G' H' exb g' (hS _ _ _ gr0')).2 rfl, ok.nx P' G' H' σ' env' gr0' g' ev' hgo⟩
def tLkS (t : TS) : TS := fun D σ H => tLock t D σ H ∨ t D σ H
theorem PS.lkS {X : Cx} {st : Stmt} {t : TS} (h : PS X st t) : PS X st (tLkS t) := ⟨fun pins s σ H D I hw => by
  rcases hw with hw | hw
  · exact (ps_lock h).run pins s σ H D I hw
  · exact h.run pins s σ H D I hw⟩
theorem for_lift {w : TI} {g : TG} {tb : TS} {φ : SG} (hi : RdJ κ far w) (hg : LiftSG κ g φ) (hb : RdS κ s1 tb) : RdS κ (sFor far φ s1) (tLkS (tFor w g tb)) := fun P0 G0 H0 P G H σ env D E gr good ev hf ok => by
  rcases hi P G H σ (hide env) _ good ev.hide hf with hi | ⟨a, u, hGa, hdk, hi⟩
  · refine .inr (hi _ fun J Pb Gb Hb xs gr0 gb it hq => ?_)
    exact for_body (gr.trans gr0) gb (ev.grow gr0) it.s (fun _ _ _ _ => trivial) hg hb hq ok
  · have hia : P.iv a = none := by
      cases e : P.iv a with
      | none => rfl
      | some t => rw [(good.gi a t e).1] at hGa; cases hGa
    have run : ∀ (od : Obj) (H0' H' : Hp) (E' : Ends), H0' a = some (.frz od u) → H' a = some (.frz od u) → Good κ P G H' → Grow P G H0' P G H' → SEnvR κ H0' P G H' σ env → EndsOk κ P G H0' D E' → tFor w g tb E' σ H' := by
      intro od H0' H' E' h0 h1 g1 gr1 ev1 ok1
      refine hi od H' h1 g1 _ fun J xs it hq => ?_
      exact for_body gr1 g1 ev1 it (fun P' G' H'' gr2 => gr2.h a _ h0 hia) hg hb hq ok1
    rcases good.gh a u hGa with hHa | ⟨_, od, hHa⟩
    · refine .inl ⟨a, u, hHa, dk_mut hdk, fun od => ?_⟩
      have h0u : ∀ o, H0 a = some o → o = u := fun o ho => by
        have := gr.turn.h a o ho hia
        rw [hHa] at this; cases this; rfl
      refine run od (upd H0 a (.frz od u)) _ _ upd_same upd_same (good.lock hGa hdk) gr.turn.lockB (ev.swap fun b o e1 e2 e3 => ?_) ⟨?_, ?_, ?_, ?_⟩
      · have hba : b ≠ a := fun e => by subst e; rw [e3] at hGa; cases hGa
        exact ⟨by rw [upd_ne hba]; exact e2, by rw [upd_ne hba]; exact e1⟩
      all_goals
        have sw : ∀ {P' : Wd} {G' H' : Hp}, Grow P G (upd H0 a (.frz od u)) P' G' H' → ∀ b o, H' b = some o → (upd H0 a (.frz od u)) b = none → G' b = none → H0 b = none ∧ (upd H' a u) b = some o := fun {P' G' H'} gr' b o e1 e2 e3 => by
          have hba : b ≠ a := fun e => by subst e; rw [upd_same] at e2; cases e2
          rw [upd_ne hba] at e2
          exact ⟨e2, by rw [upd_ne hba]; exact e1⟩
      · exact fun P' G' H' σ' env' gr' g' ev' hq => ⟨gr'.h a _ upd_same hia, ok.nx P' G' _ σ' env' (gr.behind (gr'.unlockB h0u)) (g'.unlock (gr'.g _ _ hGa)) (ev'.swap (sw gr')) hq⟩
      · exact fun v s P' G' H' gr' g' r' hq => ⟨gr'.h a _ upd_same hia, ok.rt v s P' G' _ (gr.behind (gr'.unlockB h0u)) (g'.unlock (gr'.g _ _ hGa)) (r'.swap (G' := G') (sw gr')) hq⟩
      · exact fun P' G' H' σ' env' gr' g' ev' hq => ⟨gr'.h a _ upd_same hia, ok.bk P' G' _ σ' env' (gr.behind (gr'.unlockB h0u)) (g'.unlock (gr'.g _ _ hGa)) (ev'.swap (sw gr')) hq⟩
      · exact fun P' G' H' σ' env' gr' g' ev' hq => ⟨gr'.h a _ upd_same hia, ok.ct P' G' _ σ' env' (gr.behind (gr'.unlockB h0u)) (g'.unlock (gr'.g _ _ hGa)) (ev'.swap (sw gr')) hq⟩
    · cases hc : H0 a with
      | some o =>
        have := gr.turn.h a o hc hia
        rw [hHa] at this
        cases this
        exact .inr (run od H0 H E hc hHa good gr.turn ev ⟨fun P' G' H' σ' env' gr' => ok.nx P' G' H' σ' env' (gr.behind gr'), fun v s P' G' H' gr' => ok.rt v s P' G' H' (gr.behind gr'), fun P' G' H' σ' env' gr' => ok.bk P' G' H' σ' env' (gr.behind gr'), fun P' G' H' σ' env' gr' => ok.ct P' G' H' σ' env' (gr.behind gr')⟩)
      | none =>
        have dr : ∀ {P' : Wd} {G' H' : Hp}, Grow P G (upd H0 a (.frz od u)) P' G' H' → Grow P G H0 P' G' H' := fun {P' G' H'} gr' =>
          have ne : ∀ b o, H0 b = some o → b ≠ a := fun b o e z => by subst z; rw [hc] at e; cases e
          ⟨gr'.fz, gr'.iv, gr'.n, gr'.g, fun b o e n => gr'.h b o (by rw [upd_ne (ne b o e)]; exact e) n, fun b o e => gr'.dom b o (by rw [upd_ne (ne b o e)]; exact e), fun b o e => gr'.fresh b o (by rw [upd_ne (ne b o e)]; exact e)⟩
        have sw : ∀ {G' H' : Hp}, ∀ b o, H' b = some o → (upd H0 a (.frz od u)) b = none → G' b = none → H0 b = none ∧ H' b = some o := fun {G' H'} b o e1 e2 e3 => by
          have hba : b ≠ a := fun e => by subst e; rw [upd_same] at e2; cases e2
          rw [upd_ne hba] at e2
          exact ⟨e2, e1⟩
        have g0 : Grow P G (upd H0 a (.frz od u)) P G H := by
          refine ⟨fun _ _ h => h, fun _ _ h => h, Nat.le_refl _, fun _ _ h => h, fun b o e n => ?_, fun b o e => ?_, fun _ _ _ => ⟨rfl, .inl rfl, .inl rfl⟩⟩
          · by_cases hb : b = a
            · subst hb; rw [upd_same] at e; rw [hHa]; exact e
            · rw [upd_ne hb] at e; exact gr.turn.h b o e n
          · by_cases hb : b = a
            · subst hb; exact ⟨_, hHa⟩
            · rw [upd_ne hb] at e; exact gr.turn.dom b o e
        refine .inr (run od (upd H0 a (.frz od u)) H E upd_same hHa good g0 (ev.swap fun b o e1 e2 e3 => ?_) ⟨fun P' G' H' σ' env' gr' g' ev' => ok.nx P' G' H' σ' env' (gr.behind (dr gr')) g' (ev'.swap (sw (G' := G'))), fun v s P' G' H' gr' g' r' => ok.rt v s P' G' H' (gr.behind (dr gr')) g' (r'.swap (G' := G') (sw (G' := G'))), fun P' G' H' σ' env' gr' g' ev' => ok.bk P' G' H' σ' env' (gr.behind (dr gr')) g' (ev'.swap (sw (G' := G'))), fun P' G' H' σ' env' gr' g' ev' => ok.ct P' G' H' σ' env' (gr.behind (dr gr')) g' (ev'.swap (sw (G' := G')))⟩)
        have hba : b ≠ a := fun e => by subst e; rw [e3] at hGa; cases hGa
        exact ⟨by rw [upd_ne hba]; exact e2, e1⟩
theorem d1_for {iter tg : Expr} {body : List Stmt} {φ : SG} (hp : PassesOwn (model X.prog X.w) X.A X.env X.xe) (hc : X.calm = true) (hi : DI κ X tg iter far) (hg : SD κ X tg φ) (hb : DS κ X body s1) (hs : ∀ x, foldedSetIterable iter X.env x = pure x := by intro _; rfl) : D1 κ X (.For tg iter body [] pos) (sFor far φ s1) := by
  obtain ⟨w, pw, qw⟩ := hi
  obtain ⟨g, pg, qg⟩ := hg
  obtain ⟨tb, pb, qb⟩ := hb
  exact ⟨_, PS.lkS (ps_for hp hc pw pg pb hs), for_lift qw qg qb⟩
def sWhile (c : FT) (body : FS) : FS := fun D env n => ∃ W : Nat → SEnv → Nat → Prop, (∃ m, W m env n) ∧ ∀ m env n, W m env n → c (view env) n fun b k => if b = true then body { D with nx := fun e j => ∃ m', m' < m ∧ W m' e j, ct := fun e j => ∃ m', m' < m ∧ W m' e j, bk := D.nx } env k else D.nx env k
theorem while_lift {tb : TS} (hc : RdT κ ft tt) (hb : RdS κ s1 tb) : RdS κ (sWhile ft s1) (tWhile tt tb) := fun P0 G0 H0 P G H σ env D E gr g ev hf ok => by
  obtain ⟨W, ⟨m0, h0⟩, hW⟩ := hf
  refine ⟨fun m σ' H' => ∃ P' G' env', Good κ P' G' H' ∧ Grow P0 G0 H0 P' G' H' ∧ SEnvR κ H0 P' G' H' σ' env' ∧ W m env' P'.n, ⟨m0, P, G, env, g, gr, ev, h0⟩, ?_⟩
  rintro m σ' H' ⟨P', G', env', g', gr', ev', hw⟩
  have again : ∀ (n : SEnv → Nat → Prop), (∀ e j, n e j → ∃ m', m' < m ∧ W m' e j) → OkN κ P0 G0 H0 n (fun σ2 H2 => ∃ m', m' < m ∧ ∃ P2 G2 env2, Good κ P2 G2 H2 ∧ Grow P0 G0 H0 P2 G2 H2 ∧ SEnvR κ H0 P2 G2 H2 σ2 env2 ∧ W m' env2 P2.n) := fun n hn P2 G2 H2 σ2 env2 gr2 g2 ev2 h2 => by
    obtain ⟨m', h1, h2⟩ := hn _ _ h2
    exact ⟨m', h1, P2, G2, env2, g2, gr2, ev2, h2⟩
  refine at_test hc g' ev' (hW m env' P'.n hw) fun b P2 G2 H2 gr2 g2 ev2 hq => ?_
  cases b with
  | true => exact ⟨_, fun _ _ h => h, hb P0 G0 H0 P2 G2 H2 σ' env' _ _ (gr'.trans gr2) g2 ev2 hq ⟨again _ fun _ _ h => h, ok.rt, ok.nx, again _ fun _ _ h => h⟩⟩
  | false => exact ok.nx P2 G2 H2 σ' env' (gr'.trans gr2) g2 ev2 hq
theorem d1_while {body : List Stmt} (hp : PassesOwn (model X.prog X.w) X.A X.env X.xe) (hc : DT κ X e ft) (hb : DS κ X body s1) : D1 κ X (.While e body [] pos) (sWhile ft s1) := by
  obtain ⟨t, p, q⟩ := hc
  obtain ⟨tb, pb, qb⟩ := hb
  exact ⟨_, ps_while hp p pb, while_lift q qb⟩
end
end DL
namespace DL
open PySem PySem.Spec PyProof.Rows L2
abbrev FX := DEnv → Nat → (Sl → Nat → Prop) → Prop
abbrev FXs := DEnv → Nat → (List Sl → Nat → Prop) → Prop
abbrev RdX (κ : Kit) (g : FX) (te : TE) : Prop := ∀ (P : Wd) (G H : Hp) (σ : L2.St) (env : DEnv) (Q : Sl → Nat → Prop) (R : VK), Good κ P G H → EnvR κ G P.iv σ env → g env P.n Q →
  (∀ v s P' G' H', Grow P G H P' G' H' → Good κ P' G' H' → SlR κ H P' G' H' v s → Q s P'.n → R v H') → te σ H R
def DX (κ : Kit) (X : Cx) (e : Expr) (g : FX) : Prop := ∃ t, PE X e t ∧ RdX κ g t
/-- values and own lists, no list twice -/
def SlRs (κ : Kit) (H0 : Hp) (P : Wd) (G H : Hp) : List V → List Sl → Prop
  | [], [] => True
  | v :: vs, s :: ss => SlR κ H0 P G H v s ∧ (∀ a, Holds s v a → ∀ (i : Nat) (t : Sl) (w : V), ss[i]? = some t → vs[i]? = some w → ¬ Holds t w a) ∧ SlRs κ H0 P G H vs ss
  | _, _ => False
abbrev RdXs (κ : Kit) (g : FXs) (te : TA) : Prop := ∀ (P : Wd) (G H : Hp) (σ : L2.St) (env : DEnv) (Q : List Sl → Nat → Prop) (R : List V → Hp → Prop), Good κ P G H → EnvR κ G P.iv σ env → g env P.n Q →
  (∀ vs ss P' G' H', Grow P G H P' G' H' → Good κ P' G' H' → SlRs κ H P' G' H' vs ss → Q ss P'.n → R vs H') → te σ H R
def DXs (κ : Kit) (X : Cx) (es : List Expr) (g : FXs) : Prop := ∃ t, PA X es t ∧ RdXs κ g t
section
variable {κ : Kit} {X : Cx} {H0 : Hp} {P : Wd} {G H : Hp} {σ : L2.St} {env : SEnv} {a b e : Expr} {st : Stmt} {sts : List Stmt} {fa fb f : FE} {fo : FA} {ft : FT} {s1 s2 : FS} {te : TE} {tt : TT} {pos : Pos} {es : List Expr} {far : FA} {fx : FX} {fxs : FXs}
@[simp] def sSet (i : Nat) (fv fk : FE) : FS := fun D env n => fv (view env) n fun d m => treeD d = true ∧ ∃ xs, env[i]? = some (some (.own xs)) ∧ fk (view env) m fun k m2 => treeD k = true ∧ ∃ z j, k = .int z ∧ ixN xs.length z = some j ∧ D.nx (env.set i (some (.own (xs.set j d)))) m2
theorem set_lift {i : Nat} {tv tk : TE} (hv : RdE κ fa tv) (hk : RdE κ fb tk) : RdS κ (sSet i fa fb) (tAsg tv (L2.gSub (tVar i) tk rSetL)) := fun P0 G0 H0 P G H σ env D E gr g ev hf ok => by
  refine at_view hv g ev hf fun v P1 G1 H1 d gr1 g1 ev1 rv h1 => ?_
  obtain ⟨xs, hx, h1⟩ := h1
  obtain ⟨u, q1, a, ea, vs, k1, k2, k3, k4, k5, k6⟩ := ev1.get i _ hx
  subst ea
  refine ⟨_, q1, at_view hk g1 ev1 h1 fun w P2 G2 H2 dk gr2 g2 ev2 rw' h2 => ?_⟩
  obtain ⟨z, j, ez, hj, h2⟩ := h2
  subst ez
  cases rw'
  have o2 : OwnL κ H0 P2 G2 H2 a xs := OwnL.grow ⟨vs, k1, k2, k3, k4, k5, k6⟩ gr2
  obtain ⟨us, w1, w2, w3, w4, w5, w6⟩ := o2
  refine ⟨a, us, z, j, rfl, rfl, w1, by rw [w6.length]; exact hj, ?_⟩
  exact ok.nx P2 G2 _ σ _ (((gr.trans gr1).trans gr2).put w3) (g2.put w4 w5) (ev2.put hx q1 (by rw [List.length_set]; exact w2) (Reps.set (gr2.rep rv) j w6)) h2
theorem d1_set (i : Nat) {x : Str} {p2 p3 : Pos} {k : Expr} (hN : X.N[i]? = some x) (hv : Vis X.env.scope x) (hva : DE κ X e fa) (hk : DE κ X k fb) (hs : swapsWithSole [.Subscript (.Name x p2) k p3] e pos.line X.env = pure false := by rfl) (hw : swappedStores [.Subscript (.Name x p2) k p3] e X.env = pure none := by rfl)
    (h1 : (assignEach [.Subscript (.Name x p2) k p3] X.env).map (·.2) = [assign (.Subscript (.Name x p2) k p3) X.env] := by rfl) (hix : PlainIx k := by exact fun _ _ => rfl)
    (hd : (x == ("__debug__" : Str)) = false := by decide) (hcd : (x == ("__classdict__" : Str)) = false := by decide)
    (hg : ∀ {to ti : TE} {t : TSet}, PE X (.Name x p2) to → PE X k ti → PSet X t → PG X (.Subscript (.Name x p2) k p3) (L2.gSub to ti t) := by intro to ti t h1 h2 h3; exact pg_sub h1 h2 h3) :
    D1 κ X (.Assign [.Subscript (.Name x p2) k p3] e pos) (sSet i fa fb) := by
  obtain ⟨t, p, q⟩ := hva
  obtain ⟨tk, pk, qk⟩ := hk
  exact ⟨_, ps_asg p (hg (pe_var hN hv hd hcd) pk set_list) hs hw h1, set_lift q qk⟩
@[simp] def xV (f : FE) : FX := fun env n Q => f env n fun d m => Q (.val d) m
@[simp] def xO (f : FA) : FX := fun env n Q => f env n fun d m => Q (.own d) m
theorem dx_v (h : DE κ X e f) : DX κ X e (xV f) := by
  obtain ⟨t, p, q⟩ := h
  exact ⟨t, p, fun P G H σ env Q R g ev hf hR => q P G H σ env _ _ g ev hf fun v P' G' H' d gr g' r hq => hR v (.val d) P' G' H' gr g' r hq⟩
theorem dx_o (h : DO κ X e fo) : DX κ X e (xO fo) := by
  obtain ⟨t, p, q⟩ := h
  exact ⟨t, p, fun P G H σ env Q R g ev hf hR => q P G H σ env _ _ g ev hf fun a P' G' H' vs xs gr g' ha hg hi hh hz r hq => hR _ (.own xs) P' G' H' gr g' ⟨a, rfl, own_of ha hg hi hh hz r⟩ hq⟩
@[simp] def xNil : FXs := fun _ n Q => Q [] n
@[simp] def xCons (f : FX) (r : FXs) : FXs := fun env n Q => f env n fun x n1 => r env n1 fun xs n2 => Q (x :: xs) n2
theorem SlR.base {H0 H1 : Hp} {P : Wd} {G H : Hp} {v : V} {s : Sl} (h : ∀ a, H1 a = none → H0 a = none) (r : SlR κ H1 P G H v s) : SlR κ H0 P G H v s :=
  r.to (fun _ _ h => h) (fun _ _ h => h) fun b hb => by
    obtain ⟨k1, k2, k3, _⟩ := r.held hb
    exact ⟨fun _ h => h, h b k1, k2, k3⟩
theorem SlRs.base {H0 H1 : Hp} {P : Wd} {G H : Hp} (h : ∀ a, H1 a = none → H0 a = none) : ∀ {vs : List V} {ss : List Sl}, SlRs κ H1 P G H vs ss → SlRs κ H0 P G H vs ss
  | [], [], _ => trivial
  | [], _ :: _, r => r.elim
  | _ :: _, [], r => r.elim
  | _ :: _, _ :: _, r => ⟨r.1.base h, r.2.1, SlRs.base h r.2.2⟩
theorem SlRs.get {H0 : Hp} {P : Wd} {G H : Hp} : ∀ {vs : List V} {ss : List Sl} {i : Nat} {t : Sl}, SlRs κ H0 P G H vs ss → ss[i]? = some t → ∃ v, vs[i]? = some v ∧ SlR κ H0 P G H v t
  | [], [], _, _, _, h => by simp at h
  | [], _ :: _, _, _, r, _ => r.elim
  | _ :: _, [], _, _, r, _ => r.elim
  | v :: vs, s :: ss, 0, t, r, h => by simp at h; subst h; exact ⟨v, rfl, r.1⟩
  | v :: vs, s :: ss, i + 1, t, r, h => by
    obtain ⟨u, h1, h2⟩ := SlRs.get (i := i) r.2.2 (by simpa using h)
    exact ⟨u, by simpa using h1, h2⟩
theorem dxs_nil : DXs κ X [] xNil := ⟨_, pa_nil, fun P G H σ env Q R g ev h hR => hR [] [] P G H .refl g trivial h⟩
theorem dxs_cons (ha : DX κ X e fx) (hr : DXs κ X es fxs) (hs : starEach (e :: es) X.env = (false, eval e X.env) :: starEach es X.env := by rfl) : DXs κ X (e :: es) (xCons fx fxs) := by
  obtain ⟨ta, pa, qa⟩ := ha
  obtain ⟨tb, pb, qb⟩ := hr
  refine ⟨_, pa_cons pa pb hs, fun P G H σ env Q R g ev hf hR => ?_⟩
  refine qa P G H σ env _ _ g ev hf fun x s P1 G1 H1 gr1 g1 rx hf1 => qb P1 G1 H1 σ env _ _ g1 (ev.grow gr1) hf1 fun xs ss P2 G2 H2 gr2 g2 rs hq => ?_
  refine hR _ (s :: ss) P2 G2 H2 (gr1.trans gr2) g2 ⟨rx.grow gr2, fun a ho i t w ht hw hto => ?_, rs.base fun a h => gr1.back h⟩ hq
  obtain ⟨u, h1, h2⟩ := rs.get ht
  rw [hw] at h1
  cases h1
  obtain ⟨h3, _⟩ := h2.held hto
  obtain ⟨_, _, _, o, h4⟩ := rx.held ho
  rw [h4] at h3; cases h3
/-- the slots of several names, one behind the other -/
@[simp] def setS : List Nat → List Sl → SEnv → SEnv
  | i :: is, s :: ss, env => setS is ss (env.set i (some s))
  | _, _, env => env
def setV : List Nat → List V → L2.St → L2.St
  | i :: is, v :: vs, σ => setV is vs (σ.set i (some v))
  | _, _, σ => σ
theorem priv_set {i : Nat} {v : V} {s : Sl} {b : Addr} (hp : Priv (env.set i (some s)) (σ.set i (some v)) b) : Priv env σ b ∨ Holds s v b := by
  obtain ⟨j, t, w, h1, h3, h2⟩ := hp
  by_cases hij : i = j
  · subst hij
    rw [List.getElem?_set] at h1 h3
    simp only [if_true] at h1 h3
    split at h1
    · cases h1
      split at h3
      · cases h3; exact .inr h2
      · cases h3
    · cases h1
  · rw [List.getElem?_set_ne hij] at h1 h3
    exact .inl ⟨j, t, w, h1, h3, h2⟩
theorem SEnvR.setXs : ∀ {is : List Nat} {vs : List V} {ss : List Sl} {σ : L2.St} {env : SEnv}, SEnvR κ H0 P G H σ env → SlRs κ H0 P G H vs ss → (∀ (i : Nat) (t : Sl) (w : V) (a : Addr), ss[i]? = some t → vs[i]? = some w → Holds t w a → ¬ Priv env σ a) → SEnvR κ H0 P G H (setV is vs σ) (setS is ss env)
  | [], vs, ss, σ, env, ev, _, _ => by simpa [setV, setS] using ev
  | _ :: _, [], [], σ, env, ev, _, _ => by simpa [setV, setS] using ev
  | _ :: _, [], _ :: _, _, _, _, r, _ => r.elim
  | _ :: _, _ :: _, [], _, _, _, r, _ => r.elim
  | i :: is, v :: vs, s :: ss, σ, env, ev, r, hn => by
    simp only [setV, setS]
    refine SEnvR.setXs (ev.setX r.1 fun a ho => hn 0 s v a rfl rfl ho) r.2.2 fun j t w a h1 h2 h3 hp => ?_
    rcases priv_set hp with hp | ho
    · exact hn (j + 1) t w a (by simpa using h1) (by simpa using h2) h3 hp
    · exact r.2.1 a ho j t w h1 h2 h3
@[simp] def sPar (is : List Nat) (f : FXs) : FS := fun D env n => f (hide env) n fun ss m => ss.length = is.length ∧ D.nx (setS is ss env) m
theorem SlRs.length {H0 : Hp} {P : Wd} {G H : Hp} : ∀ {vs : List V} {ss : List Sl}, SlRs κ H0 P G H vs ss → vs.length = ss.length
  | [], [], _ => rfl
  | [], _ :: _, r => r.elim
  | _ :: _, [], r => r.elim
  | _ :: _, _ :: _, r => by simp [SlRs.length r.2.2]
theorem par_new (ev : SEnvR κ H0 P G H σ env) {P' : Wd} {G' H' : Hp} {vs : List V} {ss : List Sl} (rs : SlRs κ H P' G' H' vs ss) (i : Nat) (t : Sl) (w : V) (a : Addr) (h1 : ss[i]? = some t) (h3 : vs[i]? = some w) (h2 : Holds t w a) : ¬ Priv env σ a := fun hp => by
  obtain ⟨u, q1, q2⟩ := rs.get h1
  rw [h3] at q1
  cases q1
  obtain ⟨hb, _⟩ := q2.held h2
  obtain ⟨_, _, _, o, ho⟩ := ev.priv hp
  rw [ho] at hb; cases hb
theorem d1_par (i j : Nat) {x y : Str} {px py pt : Pos} {kt k2 pt2} (hc : X.calm = true) (hN : X.N.Nodup) (hi : X.N[i]? = some x) (hj : X.N[j]? = some y) (hij : i ≠ j) (hxl : X.env.scope.names.lookup x = some .local) (hyl : X.env.scope.names.lookup y = some .local) (h : DXs κ X [a, b] fxs)
    (mk : ∀ {ta : TA}, PA X [a, b] ta → PS X (.Assign [.Tuple [.Name x px, .Name y py] kt pt] (.Tuple [a, b] k2 pt2) pos) (tPar i j ta)) : D1 κ X (.Assign [.Tuple [.Name x px, .Name y py] kt pt] (.Tuple [a, b] k2 pt2) pos) (sPar [i, j] fxs) := by
  obtain ⟨t, p, q⟩ := h
  refine ⟨_, mk p, fun P0 G0 H0 P G H σ env D E gr g ev hf ok => q P G H σ (hide env) _ _ g ev.hide hf fun vs ss P' G' H' gr' g' rs hq => ?_⟩
  have hl := rs.length
  rw [hq.1] at hl
  match vs, hl with
  | [v, w], _ =>
    refine ⟨v, w, rfl, ?_⟩
    exact ok.nx P' G' H' _ _ (gr.trans gr') g' (SEnvR.setXs (is := [i, j]) (ev.grow gr') (rs.base fun a ha => gr.back ha) (fun k t a h1 h2 h3 => par_new ev rs k t a h1 h2 h3)) hq.2
end
end DL
namespace DL
open PySem PySem.Spec PyProof.Rows L2
section
variable {κ : Kit} {X : Cx} {H0 : Hp} {P : Wd} {G H : Hp} {σ : L2.St} {env : SEnv} {a b e : Expr} {st : Stmt} {sts : List Stmt} {fa fb f : FE} {fo : FA} {ft t1 : FT} {s1 s2 : FS} {te : TE} {tt : TT} {pos : Pos} {es : List Expr} {far : FA} {fx : FX} {fxs : FXs}
structure Names (X : Cx) (tgs : List Expr) (is : List Nat) : Prop where
  pg : ∃ g, PGs X tgs g ∧ ∀ (vs : List V) (σ : L2.St) (H : Hp) (R : L2.St → Hp → Prop), vs.length = is.length → R (setV is vs σ) H → g vs σ H R
theorem names_nil : Names X [] [] := ⟨⟨_, pgs_nil, fun vs σ H R h hR => by
  match vs, h with
  | [], _ => exact ⟨rfl, hR⟩⟩⟩
theorem names_cons (i : Nat) {is : List Nat} {x : Str} (hN : X.N.Nodup) (hi : X.N[i]? = some x) (hx : Loc X.env.scope x) (r : Names X es is) (hf : X.fn x = true ∨ X.env.scope.names.lookup x = some .local := by first | exact .inl rfl | exact .inr rfl | assumption)
    (hs : (assignEach (.Name x pos :: es) X.env).map (·.2) = assign (.Name x pos) X.env :: (assignEach es X.env).map (·.2) := by rfl) : Names X (.Name x pos :: es) (i :: is) := by
  obtain ⟨g, p, q⟩ := r.pg
  refine ⟨⟨_, pgs_cons (pg_name hN hi hx hf) p hs, fun vs σ H R h hR => ?_⟩⟩
  match vs, h with
  | v :: vs, h => exact ⟨v, vs, rfl, q vs _ H R (by simpa using h) hR⟩
theorem d1_tupAsg {tgs : List Expr} {is : List Nat} {k1 k2 : _} {pt p2 : Pos} (hc : X.calm = true) (hz : is.length ≤ 1000) (h : DXs κ X es fxs) (r : Names X tgs is) (hn : (assignEach tgs X.env).length = is.length := by rfl) (hst : (assignEach tgs X.env).findIdx? (·.1) = none := by rfl)
    (hs : swapsWithSole [.Tuple tgs k1 pt] (.Tuple es k2 p2) pos.line X.env = pure false := by rfl) (hw : swappedStores [.Tuple tgs k1 pt] (.Tuple es k2 p2) X.env = pure none := by rfl) (h1 : (assignEach [.Tuple tgs k1 pt] X.env).map (·.2) = [assign (.Tuple tgs k1 pt) X.env] := by rfl) :
    D1 κ X (.Assign [.Tuple tgs k1 pt] (.Tuple es k2 p2) pos) (sPar is fxs) := by
  obtain ⟨t, p, q⟩ := h
  obtain ⟨g, pg, qg⟩ := r.pg
  refine ⟨_, ps_asg (pe_tup p) (pg_tup hc pg hn hst) hs hw h1, fun P0 G0 H0 P G H σ env D E gr gd ev hf ok => q P G H σ (hide env) _ _ gd ev.hide hf fun vs ss P' G' H' gr' g' rs hq => ?_⟩
  have hl := rs.length
  refine ⟨by rw [hl, hq.1]; exact Nat.le_trans hz (by decide), fun tp htp => ?_⟩
  refine ⟨tp, vs, rfl, SqT.of upd_same, by rw [hl, hq.1], qg vs σ _ _ (by rw [hl, hq.1]) ?_⟩
  have gn : Grow P' G' H' P' G' (upd H' tp (.tup vs)) := Grow.new htp
  have rs' : ∀ {vs ss}, SlRs κ H P' G' H' vs ss → SlRs κ H P' G' (upd H' tp (.tup vs)) vs ss := fun {vs ss} h => by
    have : ∀ {o : HO} {vs : List V} {ss : List Sl}, SlRs κ H P' G' H' vs ss → SlRs κ H P' G' (upd H' tp o) vs ss := fun {o vs ss} h => by
      induction vs generalizing ss with
      | nil => cases ss with
        | nil => trivial
        | cons => exact h.elim
      | cons v vs ih => cases ss with
        | nil => exact h.elim
        | cons s ss => exact ⟨h.1.grow (Grow.new htp), h.2.1, ih h.2.2⟩
    exact this h
  exact ok.nx P' G' _ _ _ ((gr.trans gr').trans gn) (g'.new htp) (SEnvR.setXs ((ev.grow gr').grow gn) (SlRs.base (fun a ha => gr.back ha) (rs' rs)) (fun k t a h1 h2 h3 => par_new ev rs k t a h1 h2 h3)) hq.2
abbrev FC := List D → Nat → (Sl → Nat → Prop) → Prop
/-- the promise: from data to data -/
def spD (κ : Kit) (k : Nat) (F : FC) : Sp := fun vs H Q _ => vs.length = k ∧ ∃ P G ds QD, Good κ P G H ∧ Reps κ G P.iv vs ds ∧ F ds P.n QD ∧ ∀ v s P' G' H', Grow P G H P' G' H' → Good κ P' G' H' → SlR κ H P' G' H' v s → QD s P'.n → Q v H'
@[simp] def startE (k : Nat) (ds : List D) : SEnv := ds.map (fun d => some (.val d)) ++ List.replicate k none
theorem start_env {N : List Str} {vs : List V} {ds : List D} {m : Nat} (g : Good κ P G H) (r : Reps κ G P.iv vs ds) (hm : m = N.length - vs.length) : SEnvR κ H P G H (L2.start N vs) (startE m ds) := by
  subst hm
  have hl := r.length
  refine ⟨by unfold startE L2.start; simp [hl], fun i s h => ?_, fun i j s t v w a hij h1 h2 e1 e2 o1 o2 => ?_⟩
  · unfold startE at h
    rw [List.getElem?_append] at h
    split at h
    · rename_i hi
      rw [List.length_map] at hi
      rw [List.getElem?_map, List.getElem?_eq_getElem hi] at h
      cases h
      obtain ⟨v, h1, h2⟩ := r.get (List.getElem?_eq_getElem hi)
      refine ⟨v, ?_, h2⟩
      unfold L2.start
      rw [List.getElem?_append_left (by rw [List.length_map, hl]; exact hi), List.getElem?_map, h1]
      rfl
    · rw [List.getElem?_replicate] at h
      split at h <;> cases h
  · unfold startE at h1
    rw [List.getElem?_append] at h1
    split at h1
    · rw [List.getElem?_map] at h1
      cases e : ds[i]? with
      | none => rw [e] at h1; cases h1
      | some d => rw [e] at h1; cases h1; exact o1.elim
    · rw [List.getElem?_replicate] at h1
      split at h1 <;> cases h1
end
section
variable {κ : Kit} {P : Program} {w : World} {mg : Str → Option Value} {base : Heap} {K : PySem.W.Frag}
/-- THE RULE of a def: its body reads as f, and what is promised leads into f -/
theorem fn_dl {x qual : Str} {st : Stmt} {fa : Addr} {fd : FuncData} {N ps : List Str} {k : Nat} {F : FC} {f : FS} (Fn : Fun K x qual st fa fd) (S : FnScope N ps (defScope st))
    (hb : ∀ (cdv : Value) (A : Around) (outer : List Env) (s : Shared) (H : Hp) (E : XK), Room k (A.deeper (envOfC qual (defScope st) s.heap.objs.size fa cdv)) → DS κ (cxOf CX0 P w K mg base N qual (defScope st) fa cdv A outer s H E).nox (defBody st) f)
    (hF : ∀ ds n Q, F ds n Q → ds.length = ps.length → f { nx := fun _ m => Q (.val .non) m, rt := Q } (startE (N.length - ps.length) ds) n) : FnOk P w K mg base CX0 (k + 1) fa fd ps (spD κ ps.length F) := by
  refine Fn.ok S (fun vs H Q E h => h.1) (fun cdv A outer s H vs Q E hr h => ?_)
  obtain ⟨hl, Pw, G, ds, QD, g, r, hf, hQ⟩ := h
  obtain ⟨t, p, q⟩ := hb cdv A outer s H E hr
  refine ⟨t, p, q Pw G H Pw G H _ _ _ _ .refl g (start_env g r (by rw [hl])) (hF ds Pw.n QD hf (by rw [← r.length]; exact hl)) ⟨?_, ?_, ?_, ?_⟩⟩
  · exact fun P' G' H' σ env gr g' ev h => hQ .non (.val .non) P' G' H' gr g' .non h
  · exact fun v s P' G' H' gr g' rs h => hQ v s P' G' H' gr g' rs h
  · exact fun P' G' H' σ env gr g' ev h => h.elim
  · exact fun P' G' H' σ env gr g' ev h => h.elim
theorem fn_dlD {x qual : Str} {st : Stmt} {dvs : List V} {fa : Addr} {fd : FuncData} {N ps : List Str} {k : Nat} {F : FC} {f : FS} (Fn : FunD K x qual (defArgs st) (defBody st) (defScope st) dvs [] fa fd) (S : FnScope N ps (defScope st))
    (hb : ∀ (cdv : Value) (A : Around) (outer : List Env) (s : Shared) (H : Hp) (E : XK), Room k (A.deeper (envOfC qual (defScope st) s.heap.objs.size fa cdv)) → DS κ (cxOf CX0 P w K mg base N qual (defScope st) fa cdv A outer s H E).nox (defBody st) f)
    (hF : ∀ ds n Q, F ds n Q → ds.length = ps.length → f { nx := fun _ m => Q (.val .non) m, rt := Q } (startE (N.length - ps.length) ds) n) : FnOk P w K mg base CX0 (k + 1) fa fd ps (spD κ ps.length F) := by
  refine Fn.ok S (fun vs H Q E h => h.1) (fun cdv A outer s H vs Q E hr h => ?_)
  obtain ⟨hl, Pw, G, ds, QD, g, r, hf, hQ⟩ := h
  obtain ⟨t, p, q⟩ := hb cdv A outer s H E hr
  refine ⟨t, p.nox, q Pw G H Pw G H _ _ _ _ .refl g (start_env g r (by rw [hl])) (hF ds Pw.n QD hf (by rw [← r.length]; exact hl)) ⟨?_, ?_, ?_, ?_⟩⟩
  · exact fun P' G' H' σ env gr g' ev h => hQ .non (.val .non) P' G' H' gr g' .non h
  · exact fun v s P' G' H' gr g' rs h => hQ v s P' G' H' gr g' rs h
  · exact fun P' G' H' σ env gr g' ev h => h.elim
  · exact fun P' G' H' σ env gr g' ev h => h.elim
end
section
variable {κ : Kit} {X : Cx} {e : Expr} {es : List Expr} {far : FA} {pos p : Pos} {x : Str} {k j : Nat} {f : Addr} {fd : FuncData} {ps : List Str} {F : FC} {dvs : List V} {ds : List Value} {dds : List D}
theorem own_frz {P : Wd} {G H : Hp} {G1 H1 : Hp} {P1 : Wd} {a : Addr} {xs : List D} (gr : Grow P G H P1 G1 H1) (g : Good κ P1 G1 H1) (o : OwnL κ H P1 G1 H1 a xs) : ∃ G2, Grow P G H P1 G2 H1 ∧ Good κ P1 G2 H1 ∧ Rep κ G2 P1.iv (.ref a) (.lst xs) := by
  obtain ⟨vs, h1, h2, h3, h4, h5, h6⟩ := o
  exact ⟨upd G1 a (.lst vs), gr.frz h3 h4, g.frz h4 h5 h1, .lst upd_same h2 (reps_frz h4 h6)⟩
theorem ownd_frz {P : Wd} {G H : Hp} {G1 H1 : Hp} {P1 : Wd} {a : Addr} {ks vs : List D} (gr : Grow P G H P1 G1 H1) (g : Good κ P1 G1 H1) (o : OwnD κ H P1 G1 H1 a ks vs) : ∃ G2, Grow P G H P1 G2 H1 ∧ Good κ P1 G2 H1 ∧ Rep κ G2 P1.iv (.ref a) (.dct ks vs) := by
  obtain ⟨kk, us, h1, hl, hz, hn, hk, h3, h4, h5, h6⟩ := o
  subst hk
  exact ⟨upd G1 a (.dK (kk.zip us)), gr.frz h3 h4, g.frz h4 h5 h1, .dctK upd_same hl hz hn (reps_frz h4 h6)⟩
open Classical in
/-- the frozen part with these addresses -/
noncomputable def frzS (S : List Addr) (G H : Hp) : Hp := fun a => if a ∈ S then H a else G a
theorem frzS_sub {S : List Addr} {G H : Hp} (h : ∀ a ∈ S, G a = none) : ∀ a o, G a = some o → frzS S G H a = some o := fun a o e => by
  unfold frzS
  rw [if_neg fun hm => by rw [h a hm] at e; cases e]; exact e
theorem Grow.frzS {P : Wd} {G H : Hp} {G1 H1 : Hp} {P1 : Wd} {S : List Addr} (a : Grow P G H P1 G1 H1) (h : ∀ a ∈ S, H a = none ∧ G1 a = none) : Grow P G H P1 (frzS S G1 H1) H1 where
  fz := a.fz
  iv := a.iv
  n := a.n
  g := fun x u e => frzS_sub (fun b hb => (h b hb).2) x u (a.g x u e)
  h := a.h
  dom := a.dom
  fresh := fun x u e => by
    obtain ⟨q1, q2, q3⟩ := a.fresh x u e
    refine ⟨q1, q2, ?_⟩
    have : DL.frzS S G1 H1 x = G1 x := by
      unfold DL.frzS
      rw [if_neg fun hm => by rw [(h x hm).1] at e; cases e]
    rw [this]; exact q3
theorem Good.frzS {P : Wd} {G H : Hp} {S : List Addr} (g : Good κ P G H) (h : ∀ a ∈ S, G a = none ∧ P.iv a = none) : Good κ P (frzS S G H) H where
  fx := g.fx
  pg := fun a u e => frzS_sub (fun b hb => (h b hb).1) a u (g.pg a u e)
  gh := fun a u e => by
    unfold DL.frzS at e
    by_cases hm : a ∈ S
    · rw [if_pos hm] at e; exact .inl e
    · rw [if_neg hm] at e; exact g.gh a u e
  gi := fun a t e => by
    obtain ⟨q1, u, q2, q3⟩ := g.gi a t e
    refine ⟨?_, u, q2, q3⟩
    unfold DL.frzS
    rw [if_neg fun hm => by rw [(h a hm).2] at e; cases e]; exact q1
theorem ownt_frz {P : Wd} {G H : Hp} {G1 H1 : Hp} {P1 : Wd} {v : V} {t : OT} (gr : Grow P G H P1 G1 H1) (g : Good κ P1 G1 H1) (o : OwnT κ H P1 G1 H1 v t) : ∃ G2, Grow P G H P1 G2 H1 ∧ Good κ P1 G2 H1 ∧ Rep κ G2 P1.iv v t.view := by
  obtain ⟨h1, h2, h3⟩ := o
  exact ⟨frzS t.own G1 H1, gr.frzS fun a ha => ⟨(h3 a ha).1, (h3 a ha).2.1⟩, g.frzS fun a ha => (h3 a ha).2, h1.seen (frzS_sub fun a ha => (h3 a ha).2.1) fun a ha o ho => by unfold frzS; rw [if_pos ha]; exact ho⟩
theorem sl_frz {P : Wd} {G H : Hp} {G1 H1 : Hp} {P1 : Wd} {v : V} {s : Sl} (gr : Grow P G H P1 G1 H1) (g : Good κ P1 G1 H1) (r : SlR κ H P1 G1 H1 v s) : ∃ G2, Grow P G H P1 G2 H1 ∧ Good κ P1 G2 H1 ∧ Rep κ G2 P1.iv v s.view := by
  cases s with
  | val d => exact ⟨G1, gr, g, r⟩
  | own xs => obtain ⟨a, e, o⟩ := r; subst e; exact own_frz gr g o
  | ownd ks vs => obtain ⟨a, e, o⟩ := r; subst e; exact ownd_frz gr g o
  | tre t => exact ownt_frz gr g r
/-- f(..) as a value; as a new list; as either -/
@[simp] def fCall (j : Nat) (F : FC) (dds : List D) (far : FA) : FE := fun env n Q => far env n fun ds m => (ds ++ dds).length = j ∧ F (ds ++ dds) m fun s k => Q s.view k
@[simp] def oCall (j : Nat) (F : FC) (dds : List D) (far : FA) : FA := fun env n Q => far env n fun ds m => (ds ++ dds).length = j ∧ F (ds ++ dds) m fun s k => ∃ xs, s = .own xs ∧ Q xs k
@[simp] def xCall (j : Nat) (F : FC) (dds : List D) (far : FA) : FX := fun env n Q => far env n fun ds m => (ds ++ dds).length = j ∧ F (ds ++ dds) m Q
theorem call_lift {t : TA} (hdd : ∀ (G : Hp) (iv : IV), Reps κ G iv dvs dds) (ha : RdA κ far t) : RdX κ (xCall j F dds far) (tCall (spD κ j F) dvs E0 t) := fun P G H σ env Q R g ev hf hR =>
  ha P G H σ env _ _ g ev hf fun vs P1 G1 H1 ds gr1 g1 r1 h1 => by
    have r := r1.append (hdd G1 P1.iv)
    exact ⟨by rw [r.length]; exact h1.1, P1, G1, ds ++ dds, Q, g1, r, h1.2, fun v s P2 G2 H2 gr2 g2 rs hq => hR v s P2 G2 H2 (gr1.trans gr2) g2 (rs.base fun a ha => gr1.back ha) hq⟩
/-- a def of the module that keeps its promise, by at most k levels; dds: the defaults that fill up -/
def Cal (κ : Kit) (P : Program) (w : World) (K : PySem.W.Frag) (mg : Str → Option Value) (base : Heap) (x : Str) (k j : Nat) (F : FC) (dds : List D) : Prop :=
  ∃ (f : Addr) (fd : FuncData) (ps : List Str) (dvs : List V) (ds : List Value), FnOk P w K mg base CX0 k f fd ps (spD κ j F) ∧ mg x = some (.ref f) ∧ PySem.W.keepIn K (.ref f) = true ∧ Binds K fd ps ds ∧ Vals dvs ds ∧ ∀ (G : Hp) (iv : IV), Reps κ G iv dvs dds
theorem Cal.mono {P : Program} {w : World} {K : PySem.W.Frag} {mg : Str → Option Value} {base : Heap} {x : Str} {k k' j : Nat} {F : FC} {dds : List D} (c : Cal κ P w K mg base x k j F dds) (h : k ≤ k') : Cal κ P w K mg base x k' j F dds := by
  obtain ⟨f, fd, ps, dvs, ds, Fn, r⟩ := c
  exact ⟨f, fd, ps, dvs, ds, Fn.mono h, r⟩
variable {k' : Nat} (c : Cal κ X.prog X.w X.K X.mg X.base x k j F dds) (hr : Room k' X.A)
include c hr
theorem dx_call (ha : DA κ X (e :: es) far) (hk : k ≤ k' := by first | decide | exact Nat.le_refl _ | omega) (hg : Gl X x := by rfl) (hdb : (x == ("__debug__" : Str)) = false := by decide) (he : starEach (e :: es) X.env = (false, eval e X.env) :: starEach es X.env := by rfl) (hpl : (backTo pos (starEach es X.env)).any (·.1) = false := by rfl) :
    DX κ X (.Call (.Name x p) (e :: es) [] pos) (xCall j F dds far) := by
  obtain ⟨f, fd, ps, dvs, ds, Fn, hm, hkp, hb, hd, hdd⟩ := c
  obtain ⟨t, pt, q⟩ := ha
  exact ⟨_, pe_call Fn (hr.mono hk) hg hm hkp hb hd pass0 pt hdb he hpl, call_lift hdd q⟩
omit c hr in
theorem DX.de {e : Expr} {far : FA} (h : DX κ X e (xCall j F dds far)) : DE κ X e (fCall j F dds far) := by
  obtain ⟨t, pt, q⟩ := h
  refine ⟨t, pt, fun P G H σ env Q R g ev hf hR => q P G H σ env (fun s k => Q s.view k) R g ev hf fun v s P' G' H' gr g' rs hq => ?_⟩
  obtain ⟨G2, gr2, g2, r2⟩ := sl_frz gr g' rs
  exact hR v P' G2 H' _ gr2 g2 r2 hq
omit c hr in
theorem DX.do {e : Expr} {far : FA} (h : DX κ X e (xCall j F dds far)) : DO κ X e (oCall j F dds far) := by
  obtain ⟨t, pt, q⟩ := h
  refine ⟨t, pt, fun P G H σ env Q R g ev hf hR => q P G H σ env (fun s k => ∃ xs, s = .own xs ∧ Q xs k) R g ev hf fun v s P' G' H' gr g' rs hq => ?_⟩
  obtain ⟨xs, e, hq⟩ := hq
  subst e
  obtain ⟨a, ea, vs, h1, h2, h3, h4, h5, h6⟩ := rs
  subst ea
  exact hR a P' G' H' vs xs gr g' h3 h4 h5 h1 h2 h6 hq
end
end DL
namespace DL
open PySem PySem.Spec PyProof.Rows L2
section
variable {κ : Kit} {X : Cx} {a b c e o tg : Expr} {es : List Expr} {fa fb fc f : FE} {fo fo2 : FA} {far : FA} {pos p p2 : Pos} {t1 t2 : FT} {x : Str} {k : Nat}
theorem v (i : Nat) (hN : X.N[i]? = some x := by rfl) (hv : Vis X.env.scope x := by first | exact Or.inl rfl | exact Or.inr (Or.inl rfl) | exact Or.inr (Or.inr rfl)) (hd : (x == ("__debug__" : Str)) = false := by decide) (hcd : (x == ("__classdict__" : Str)) = false := by decide) : DE κ X (.Name x pos) (fVar i) := de_var hN hv hd hcd
theorem c_str {j} (s : List Nat) (hs : x = ⟨s.toArray⟩ := by rfl) (hl : OkS s := by exact ⟨by decide, by decide⟩) : DE κ X (.Constant (.str x) j pos) (fC (.str s)) := de_str s hs hl
/-- a + b: ints, texts, lists -/
def gAdd3 (x y : D) (n : Nat) (Q : D → Nat → Prop) : Prop := match x, y with
  | .int i, .int j => Q (.int (i + j)) n
  | .str s, .str t => s.length + t.length ≤ 16777216 ∧ Q (.str (s ++ t)) n
  | .lst xs, .lst ys => xs.length + ys.length ≤ 16777216 ∧ Q (.lst (xs ++ ys)) n
  | .tup xs, .tup ys => xs.length + ys.length ≤ 16777216 ∧ Q (.tup (xs ++ ys)) n
  | _, _ => False
theorem e_add (ha : DE κ X a fa) (hb : DE κ X b fb) : DE κ X (.BinOp a .Add b pos) (f2 gAdd3 fa fb) := by
  have hl : sizeLine = 16777216 := sizeLine_eq
  refine de_op (r := fun x y H Q => (rI0 fun i j => .int (i + j)) x y H Q ∨ ((∃ i j, x = .str i ∧ y = .str j ∧ i.length + j.length ≤ sizeLine ∧ Q (.str (i ++ j)) H) ∨ (rCat x y H Q ∨ rCatA X.K x y H Q))) ?_ (OpR.or op_add (OpR.or op_add_str (OpR.or op_cat op_catA))) ha hb
  intro P G H x y dx dy Q R g rx ry hf hR
  cases rx <;> cases ry <;> try (exact False.elim hf)
  · exact .inl ⟨_, _, rfl, rfl, hR _ P G H _ .refl g .int hf⟩
  · rename_i s hs t ht
    refine .inr (.inl ⟨_, _, rfl, rfl, ?_, ?_⟩)
    · rw [str_len, str_len, hl]; exact hf.1
    · rw [str_app]; exact hR _ P G H _ .refl g (.str (hs.app ht (by rw [hl]; exact hf.1))) hf.2
  · rename_i a1 vs1 xs1 h1 z1 r1 a2 vs2 xs2 h2 z2 r2
    have hz : vs1.length + vs2.length ≤ sizeLine := by rw [r1.length, r2.length, hl]; exact hf.1
    refine .inr (.inr (.inl ⟨_, _, _, _, rfl, rfl, g.gx h1 rfl, g.gx h2 rfl, hz, fun p hp => ?_⟩))
    exact hR _ P (upd G p (.lst _)) _ _ ((Grow.new hp).frz hp (g.gnone hp)) ((g.new hp).frz (g.gnone hp) (g.inone hp) upd_same) (.lst upd_same (by rw [List.length_append]; exact hz) (reps_frz (g.gnone hp) (r1.append r2))) hf.2
  · rename_i a1 vs1 xs1 h1 z1 r1 a2 vs2 xs2 h2 z2 r2
    have hz : vs1.length + vs2.length ≤ sizeLine := by rw [r1.length, r2.length, hl]; exact hf.1
    refine .inr (.inr (.inr ⟨_, _, _, _, rfl, rfl, SqT.of (g.gx h1 rfl), SqT.of (g.gx h2 rfl), hz, fun e => ?_, fun _ e => ?_, fun _ _ p hp => ?_⟩))
    · subst e
      cases r1
      exact hR _ P G H _ .refl g (.tup h2 z2 r2) hf.2
    · subst e
      cases r2
      exact hR _ P G H _ .refl g (by rw [List.append_nil]; exact .tup h1 z1 r1) hf.2
    · exact hR _ P (upd G p (.tup _)) _ _ ((Grow.new hp).frz hp (g.gnone hp)) ((g.new hp).frz (g.gnone hp) (g.inone hp) upd_same) (.tup upd_same (by rw [List.length_append]; exact hz) (reps_frz (g.gnone hp) (r1.append r2))) hf.2
theorem e_sub (ha : DE κ X a fa) (hb : DE κ X b fb) : DE κ X (.BinOp a .Sub b pos) (f2 gSub fa fb) := de_sub ha hb
theorem e_mul (ha : DE κ X a fa) (hb : DE κ X b fb) : DE κ X (.BinOp a .Mult b pos) (f2 gMul fa fb) := de_mul ha hb
theorem e_div (ha : DE κ X a fa) (hb : DE κ X b fb) : DE κ X (.BinOp a .FloorDiv b pos) (f2 gDiv fa fb) := de_div ha hb
theorem e_mod (ha : DE κ X a fa) (hb : DE κ X b fb) : DE κ X (.BinOp a .Mod b pos) (f2 gMod fa fb) := de_mod ha hb
theorem e_pow (ha : DE κ X a fa) (hb : DE κ X b fb) : DE κ X (.BinOp a .Pow b pos) (f2 gPow fa fb) := de_pow ha hb
theorem e_lt (ha : DE κ X a fa) (hb : DE κ X b fb) : DE κ X (.Compare a [.Lt] [b] pos) (f2 gLt fa fb) := CR.de (cr_lt) ha hb (nomark _)
theorem t_lt (ha : DE κ X a fa) (hb : DE κ X b fb) : DT κ X (.Compare a [.Lt] [b] pos) (tVal (f2 gLt fa fb)) := CR.dt (cr_lt) ha hb (nomark _)
theorem e_le (ha : DE κ X a fa) (hb : DE κ X b fb) : DE κ X (.Compare a [.LtE] [b] pos) (f2 gLe fa fb) := CR.de (cr_le) ha hb (nomark _)
theorem t_le (ha : DE κ X a fa) (hb : DE κ X b fb) : DT κ X (.Compare a [.LtE] [b] pos) (tVal (f2 gLe fa fb)) := CR.dt (cr_le) ha hb (nomark _)
theorem t_gt (ha : DE κ X a fa) (hb : DE κ X b fb) : DT κ X (.Compare a [.Gt] [b] pos) (tVal (f2 gGt fa fb)) := CR.dt (cr_gt) ha hb (nomark _)
theorem e_ge (ha : DE κ X a fa) (hb : DE κ X b fb) : DE κ X (.Compare a [.GtE] [b] pos) (f2 gGe fa fb) := CR.de (cr_ge) ha hb (nomark _)
theorem t_ge (ha : DE κ X a fa) (hb : DE κ X b fb) : DT κ X (.Compare a [.GtE] [b] pos) (tVal (f2 gGe fa fb)) := CR.dt (cr_ge) ha hb (nomark _)
theorem e_eq (hr : Room k X.A) (ha : DE κ X a fa) (hb : DE κ X b fb) : DE κ X (.Compare a [.Eq] [b] pos) (f2 gEq fa fb) := CR.de (cr_eq hr.units) ha hb (nomark _)
theorem t_eq (hr : Room k X.A) (ha : DE κ X a fa) (hb : DE κ X b fb) : DT κ X (.Compare a [.Eq] [b] pos) (tVal (f2 gEq fa fb)) := CR.dt (cr_eq hr.units) ha hb (nomark _)
theorem e_ne (hr : Room k X.A) (ha : DE κ X a fa) (hb : DE κ X b fb) : DE κ X (.Compare a [.NotEq] [b] pos) (f2 gNe fa fb) := CR.de (cr_ne hr.units) ha hb (nomark _)
theorem t_ne (hr : Room k X.A) (ha : DE κ X a fa) (hb : DE κ X b fb) : DT κ X (.Compare a [.NotEq] [b] pos) (tVal (f2 gNe fa fb)) := CR.dt (cr_ne hr.units) ha hb (nomark _)
theorem e_isN (ha : DE κ X a fa) (hb : DE κ X b fb) : DE κ X (.Compare a [.Is] [b] pos) (f2 gIsN fa fb) := CR.de (cr_isN) ha hb (nomark _)
theorem t_isN (ha : DE κ X a fa) (hb : DE κ X b fb) : DT κ X (.Compare a [.Is] [b] pos) (tVal (f2 gIsN fa fb)) := CR.dt (cr_isN) ha hb (nomark _)
theorem t_notN (ha : DE κ X a fa) (hb : DE κ X b fb) : DT κ X (.Compare a [.IsNot] [b] pos) (tVal (f2 gNotN fa fb)) := CR.dt (cr_notN) ha hb (nomark _)
theorem e_in (hr : Room k X.A) (ha : DE κ X a fa) (hb : DE κ X b fb) (hm : behindInMarks .In b = false := by rfl) : DE κ X (.Compare a [.In] [b] pos) (f2 gIn fa fb) := CR.de (cr_in (hu_of hr)) ha hb hm
theorem t_in (hr : Room k X.A) (ha : DE κ X a fa) (hb : DE κ X b fb) (hm : behindInMarks .In b = false := by rfl) : DT κ X (.Compare a [.In] [b] pos) (tVal (f2 gIn fa fb)) := CR.dt (cr_in (hu_of hr)) ha hb hm
theorem t_notIn (hr : Room k X.A) (ha : DE κ X a fa) (hb : DE κ X b fb) (hm : behindInMarks .NotIn b = false := by rfl) : DT κ X (.Compare a [.NotIn] [b] pos) (tVal (f2 gNotIn fa fb)) := CR.dt (cr_notIn (hu_of hr)) ha hb hm
theorem e_ix (hr : Room k X.A) (ha : DE κ X a fa) (hb : DE κ X b fb) (hs : PlainIx b := by exact fun _ _ => rfl) : DE κ X (.Subscript a b pos) (f2 gIx fa fb) := de_ix (hu_of hr) ha hb hs
section
variable (ha : DE κ X e f)
theorem e_isi (T : Ty) {y : Str} (hm : X.mg "isinstance" = none) (hmT : X.mg y = none) (ha : DE κ X e f) (hg : Gl X "isinstance" := by rfl) (hgT : Gl X y := by rfl) (hy : y = Str.ofString T.nm := by rfl)
    (he : starEach [e, .Name y p2] X.env = (false, eval e X.env) :: starEach [.Name y p2] X.env := by rfl) (he2 : starEach [.Name y p2] X.env = (false, eval (.Name y p2) X.env) :: starEach [] X.env := by rfl) (hpl : (backTo pos (starEach [.Name y p2] X.env)).any (·.1) = false := by rfl) :
    DE κ X (.Call (.Name "isinstance" p) [e, .Name y p2] [] pos) (fIsi T f) := de_isi T ha hg hm hgT hmT hy he he2 hpl
theorem ty_cons (T : Ty) {Ts : List Ty} {y : Str} (hmT : X.mg y = none) (r : DTys X es Ts) (hgT : Gl X y := by rfl) (hy : y = Str.ofString T.nm := by rfl) (he2 : starEach (.Name y p2 :: es) X.env = (false, eval (.Name y p2) X.env) :: starEach es X.env := by rfl) : DTys X (.Name y p2 :: es) (T :: Ts) := dtys_cons T r hgT hmT hy he2
theorem e_isiT {Ts : List Ty} {x1} (hm : X.mg "isinstance" = none) (ha : DE κ X e f) (hTs : DTys X es Ts) (hz : Ts.length ≤ 100 := by decide) (hg : Gl X "isinstance" := by rfl)
    (he : starEach [e, .Tuple es x1 p2] X.env = (false, eval e X.env) :: starEach [.Tuple es x1 p2] X.env := by rfl) (he2 : starEach [.Tuple es x1 p2] X.env = (false, eval (.Tuple es x1 p2) X.env) :: starEach [] X.env := by rfl) (hpl : (backTo pos (starEach [.Tuple es x1 p2] X.env)).any (·.1) = false := by rfl) :
    DE κ X (.Call (.Name "isinstance" p) [e, .Tuple es x1 p2] [] pos) (fIsiT Ts f) := de_isiT Ts hz ha hTs hg hm he he2 hpl
theorem da_one (ha : DE κ X e f) (hs : starEach [e] X.env = (false, eval e X.env) :: starEach [] X.env := by rfl) : DA κ X [e] (aCons f aNil) := da_cons ha da_nil hs
theorem e_len (hm : X.mg "len" = none) (ha : DE κ X e f) (hK : κ.K = X.K := by rfl) (hg : Gl X "len" := by rfl) (he : starEach [e] X.env = (false, eval e X.env) :: starEach [] X.env := by rfl) (hpl : (backTo pos (starEach [] X.env)).any (·.1) = false := by rfl) : DE κ X (.Call (.Name "len" p) [e] [] pos) (fCl gLen (aCons f aNil)) := de_len hK rfl hg hm (da_one ha he) he hpl
theorem e_all (hm : X.mg "all" = none) (ha : DE κ X e f) (hc : X.calm = true := by rfl) (hg : Gl X "all" := by rfl) (he : starEach [e] X.env = (false, eval e X.env) :: starEach [] X.env := by rfl) (hpl : (backTo pos (starEach [] X.env)).any (·.1) = false := by rfl) : DE κ X (.Call (.Name "all" p) [e] [] pos) (fCl gAll (aCons f aNil)) := de_all hc rfl hg hm (da_one ha he) he hpl
theorem e_sum (hm : X.mg "sum" = none) (ha : DE κ X e f) (hc : X.calm = true := by rfl) (hg : Gl X "sum" := by rfl) (he : starEach [e] X.env = (false, eval e X.env) :: starEach [] X.env := by rfl) (hpl : (backTo pos (starEach [] X.env)).any (·.1) = false := by rfl) : DE κ X (.Call (.Name "sum" p) [e] [] pos) (fCl gSum (aCons f aNil)) := de_sum hc rfl hg hm (da_one ha he) he hpl
theorem e_min (hm : X.mg "min" = none) (ha : DA κ X (e :: es) far) (hc : X.calm = true := by rfl) (hg : Gl X "min" := by rfl) (he : starEach (e :: es) X.env = (false, eval e X.env) :: starEach es X.env := by rfl) (hpl : (backTo pos (starEach es X.env)).any (·.1) = false := by rfl) : DE κ X (.Call (.Name "min" p) (e :: es) [] pos) (fCl gMin far) := de_min hc rfl hg hm ha he hpl
theorem e_max (hm : X.mg "max" = none) (ha : DA κ X (e :: es) far) (hc : X.calm = true := by rfl) (hg : Gl X "max" := by rfl) (he : starEach (e :: es) X.env = (false, eval e X.env) :: starEach es X.env := by rfl) (hpl : (backTo pos (starEach es X.env)).any (·.1) = false := by rfl) : DE κ X (.Call (.Name "max" p) (e :: es) [] pos) (fCl gMax far) := de_max hc rfl hg hm ha he hpl
theorem e_int (hm : X.mg "int" = none) (ha : DE κ X e f) (hg : Gl X "int" := by rfl) (he : starEach [e] X.env = (false, eval e X.env) :: starEach [] X.env := by rfl) (hpl : (backTo pos (starEach [] X.env)).any (·.1) = false := by rfl) : DE κ X (.Call (.Name "int" p) [e] [] pos) (fCl gInt (aCons f aNil)) := de_intc rfl hg hm (da_one ha he) he hpl
theorem o_list (hm : X.mg "list" = none) (ha : DE κ X e f) (hc : X.calm = true := by rfl) (hg : Gl X "list" := by rfl) (he : starEach [e] X.env = (false, eval e X.env) :: starEach [] X.env := by rfl) (hpl : (backTo pos (starEach [] X.env)).any (·.1) = false := by rfl) : DO κ X (.Call (.Name "list" p) [e] [] pos) (oCl oList (aCons f aNil)) := do_list hc rfl hg hm (da_one ha he) he hpl
theorem o_sorted (hm : X.mg "sorted" = none) (ha : DE κ X e f) (hg : Gl X "sorted" := by rfl) (he : starEach [e] X.env = (false, eval e X.env) :: starEach [] X.env := by rfl) (hpl : (backTo pos (starEach [] X.env)).any (·.1) = false := by rfl) : DO κ X (.Call (.Name "sorted" p) [e] [] pos) (oCl oSorted (aCons f aNil)) := do_sorted rfl hg hm (da_one ha he) he hpl
end
/-- slices of any kind, as a value -/
def gSl (x : D) (lo hi : Option Int) (n3 : Nat) (Q : D → Nat → Prop) : Prop := match x with
  | .str s => Q (.str (cutL s lo hi)) n3
  | .tup xs => ¬ (HT.sIx xs.length 0 lo = 0 ∧ HT.sIx xs.length xs.length hi = xs.length) ∧ Q (.tup (cutL xs lo hi)) n3
  | .lst xs => Q (.lst (cutL xs lo hi)) n3
  | .scr ns => Q (.lst ((cutL ns lo hi).map D.int)) n3
  | _ => False
@[simp] def fSl (f : FE) (l h : FO) : FE := fun env n Q => f env n fun x n1 => l env n1 fun lo n2 => h env n2 fun hi n3 => gSl x lo hi n3 Q
theorem e_sl {lo hi : Option Expr} {fl fh : FO} (ha : DE κ X a fa) (hl : DP κ X lo fl) (hh : DP κ X hi fh) (hK : κ.K = X.K := by rfl) : DE κ X (.Subscript a (.Slice lo hi none p2) pos) (fSl fa fl fh) := by
  obtain ⟨ta, pa, qa⟩ := ha
  obtain ⟨tl, pl, ql⟩ := hl
  obtain ⟨th, ph, qh⟩ := hh
  refine ⟨_, pe_slice (SlR.or sl_str (SlR.or sl_tup sl_list)) pa pl ph, fun P G H σ env Q R g ev hf hR => ?_⟩
  refine qa P G H σ env _ _ g ev hf fun v P1 G1 H1 d gr1 g1 r1 hf1 => ql P1 G1 H1 σ env _ _ g1 (ev.grow gr1) hf1 fun l P2 G2 H2 gr2 g2 hf2 => qh P2 G2 H2 σ env _ _ g2 ((ev.grow gr1).grow gr2) hf2 fun h P3 G3 H3 gr3 g3 hf3 => ?_
  have gr := (gr1.trans gr2).trans gr3
  have r3 := gr3.rep (gr2.rep r1)
  unfold gSl at hf3
  split at hf3
  · cases r3 with
    | str hs => exact .inl ⟨_, rfl, by rw [str_len]; exact hs.1, by rw [cutS_eq]; exact hR _ P3 G3 H3 _ gr g3 (.str (hs.cut l h)) hf3⟩
  · cases r3 with
    | tup ht z r =>
      refine .inr (.inl ⟨_, _, rfl, SqT.of (g3.gx ht rfl), by rw [r.length]; exact hf3.1, fun p hp => ?_⟩)
      have hg := g3.gnone hp
      exact hR _ P3 (upd G3 p (.tup _)) _ _ (gr.trans ((Grow.new hp).frz hp hg)) ((g3.new hp).frz hg (g3.inone hp) upd_same) (.tup upd_same (Nat.le_trans (cutV_length _ _ _) z) (reps_frz hg (reps_cut r l h))) hf3.2
  · cases r3 with
    | lst ht z r =>
      refine .inr (.inr ⟨_, _, rfl, SqL.of (g3.gx ht rfl), fun p hp => ?_⟩)
      have hg := g3.gnone hp
      exact hR _ P3 (upd G3 p (.lst _)) _ _ (gr.trans ((Grow.new hp).frz hp hg)) ((g3.new hp).frz hg (g3.inone hp) upd_same) (.lst upd_same (Nat.le_trans (cutV_length _ _ _) z) (reps_frz hg (reps_cut r l h))) hf3
  · cases r3 with
    | scr ht z =>
      refine .inr (.inr ⟨_, _, rfl, by rw [← hK]; exact sql_at g3.gh ht, fun p hp => ?_⟩)
      have hg := g3.gnone hp
      rw [cut_map]
      exact hR _ P3 (upd G3 p (.lst _)) _ _ (gr.trans ((Grow.new hp).frz hp hg)) ((g3.new hp).frz hg (g3.inone hp) upd_same) (.lst upd_same (by rw [List.length_map]; exact Nat.le_trans (cutL_le _ _ _) z) Reps.ints) hf3
  · exact hf3.elim
theorem i_seq (ha : DE κ X e f) : DI κ X tg e (iSeq f) := (di_seq ha).j
theorem i_name (i : Nat) (hN : X.N[i]? = some x := by rfl) (hv : Vis X.env.scope x := by first | exact Or.inl rfl | exact Or.inr (Or.inl rfl) | exact Or.inr (Or.inr rfl)) (hd : (x == ("__debug__" : Str)) = false := by decide) (hcd : (x == ("__classdict__" : Str)) = false := by decide) : DI κ X tg (.Name x pos) (iSeqN i) := di_name hN hv hd hcd
theorem i_r1 (hm : X.mg "range" = none) (ha : DE κ X a fa) (hg : Gl X "range" := by rfl) (hs : starEach [a] X.env = [(false, eval a X.env)] := by rfl) : DI κ X tg (.Call (.Name "range" p) [a] [] pos) (iRange1 (aCons fa aNil)) := (di_range1 hg hm (da_one ha hs) hs).j
theorem i_r2 (hm : X.mg "range" = none) (ha : DE κ X a fa) (hb : DE κ X b fb) (hg : Gl X "range" := by rfl) (hs : starEach [a, b] X.env = [(false, eval a X.env), (false, eval b X.env)] := by rfl) (hs2 : starEach [b] X.env = [(false, eval b X.env)] := by rfl) (hs3 : starEach [a, b] X.env = (false, eval a X.env) :: starEach [b] X.env := by rfl) : DI κ X tg (.Call (.Name "range" p) [a, b] [] pos) (iRange2 (aCons fa (aCons fb aNil))) := (di_range2 hg hm (da_cons ha (da_one hb hs2) hs3) hs hs2).j
theorem i_zip {tpos : Pos} {elts : List Expr} {kk : Nat} (hm : X.mg "zip" = none) (ha : DE κ X a fa) (hb : DE κ X b fb) (hg : Gl X "zip" := by rfl) (hs : starEach [a, b] X.env = (false, eval a X.env) :: starEach [b] X.env := by rfl) (hs2 : starEach [b] X.env = [(false, eval b X.env)] := by rfl) (hpl : (backTo pos (starEach [b] X.env)).any (·.1) = false := by rfl) :
    DI κ X (.Tuple elts kk tpos) (.Call (.Name "zip" p) [a, b] [] pos) (iZipD (aCons fa (aCons fb aNil))) := (di_zip hg hm (da_cons ha (da_one hb hs2) hs) hs hpl).j
theorem o_comp {iter tg elt : Expr} {ifs : List Expr} {scope : Scope} (own : List (Str × Nat)) {sl : List Nat} {φ : FG} (hN : X.N.Nodup) (hi : DI κ X tg iter far) 
    (hg : ∀ (s : Shared) (H : Hp) (C : Addr) (cl : List (Str × Addr)) (fp : List Addr), DG κ (X.blk s H scope (compEnvC scope cl C X.env) fp) tg sl φ)
    (ht : ∀ (s : Shared) (H : Hp) (C : Addr) (cl : List (Str × Addr)) (fp : List Addr), DTs κ (X.blk s H scope (compEnvC scope cl C X.env) fp) ifs t1)
    (he : ∀ (s : Shared) (H : Hp) (C : Addr) (cl : List (Str × Addr)) (fp : List Addr), DE κ (X.blk s H scope (compEnvC scope cl C X.env) fp) elt f)
    (ok : blkC X.N X.env.scope scope own = true := by rfl) (hc : X.calm = true := by rfl) (hsl : ∀ i ∈ sl, i ∈ own.map (·.2) := by decide) (hs : ∀ x, foldedSetIterable iter X.env x = pure x := by intro _; rfl) : DO κ X (.ListComp elt [⟨tg, iter, ifs, 0⟩] scope pos) (oComp far φ t1 f (own.map (·.2))) := do_comp own hc hN hi ok hg ht he hsl hs
end
end DL
namespace DL
open PySem PySem.Spec PyProof.Rows L2
theorem DO.rdfr {κ : Kit} {fo : FA} {t : TE} (q : RdO κ fo t) : RdE κ (fFrz fo) t := fun P G H σ env Q R g ev hf hR => q P G H σ env _ R g ev hf fun a P' G' H' vs xs gr g' ha hg hi hh hz r hq =>
  hR (.ref a) P' (upd G' a (.lst vs)) H' (.lst xs) (gr.frz ha hg) (g'.frz hg hi hh) (.lst upd_same hz (reps_frz hg r)) hq
section
variable {κ : Kit} {X : Cx} {e tg : Expr} {es : List Expr} {f : FE} {fo far : FA} {t1 : FT} {s1 s2 : FS} {pos p2 : Pos} {x : Str} {b1 b2 : List Stmt}
section
variable (i : Nat) (hN : X.N.Nodup)
include hN
theorem S_asg (h : DE κ X e f) (hi : X.N[i]? = some x := by rfl) (hx : Loc X.env.scope x := by first | exact Or.inl rfl | exact Or.inr rfl) (hs : swapsWith e (some (.Name x p2)) pos.line X.env = pure false := by rfl) (hfn : X.fn x = true ∨ X.env.scope.names.lookup x = some .local := by first | exact Or.inl rfl | exact Or.inr rfl) : D1 κ X (.Assign [.Name x p2] e pos) (sAsg i f) := d1_asg hN hi hx hs hfn h
theorem S_asgO (h : DO κ X e fo) (hi : X.N[i]? = some x := by rfl) (hx : Loc X.env.scope x := by first | exact Or.inl rfl | exact Or.inr rfl) (hs : swapsWith e (some (.Name x p2)) pos.line X.env = pure false := by rfl) (hfn : X.fn x = true ∨ X.env.scope.names.lookup x = some .local := by first | exact Or.inl rfl | exact Or.inr rfl) : D1 κ X (.Assign [.Name x p2] e pos) (sAsgO i fo) := d1_asgO hN hi hx hs hfn h
theorem N_n (hi : X.N[i]? = some x := by rfl) (hx : Loc X.env.scope x := by first | exact Or.inl rfl | exact Or.inr rfl) (hfn : X.fn x = true ∨ X.env.scope.names.lookup x = some .local := by first | exact Or.inl rfl | exact Or.inr rfl) : SD κ X (.Name x pos) (nN i) := sd_name i hN hi hx hfn
theorem G_n (hi : X.N[i]? = some x := by rfl) (hx : Loc X.env.scope x := by first | exact Or.inl rfl | exact Or.inr rfl) (hfn : X.fn x = true ∨ X.env.scope.names.lookup x = some .local := by first | exact Or.inl rfl | exact Or.inr rfl) : DG κ X (.Name x pos) [i] (gN i) := dg_name i hN hi hx hfn
theorem X_n {is : List Nat} (r : Names X es is) (hi : X.N[i]? = some x := by rfl) (hx : Loc X.env.scope x := by first | exact Or.inl rfl | exact Or.inr rfl) (hfn : X.fn x = true ∨ X.env.scope.names.lookup x = some .local := by first | exact Or.inl rfl | exact Or.inr rfl)
    (hs : (assignEach (.Name x pos :: es) X.env).map (·.2) = assign (.Name x pos) X.env :: (assignEach es X.env).map (·.2) := by rfl) : Names X (.Name x pos :: es) (i :: is) := names_cons i hN hi hx r hfn hs
end
theorem S_app (i : Nat) {apos cpos : Pos} (h : DE κ X e f) (hN : X.N[i]? = some x := by rfl) (hv : Vis X.env.scope x := by first | exact Or.inl rfl | exact Or.inr (Or.inl rfl) | exact Or.inr (Or.inr rfl)) : 
    (hd : (x == ("__debug__" : Str)) = false := by decide) → (hcd : (x == ("__classdict__" : Str)) = false := by decide) → (hbase : attributeBase (.Name x p2) "append" X.env (eval (.Name x p2) X.env) = eval (.Name x p2) X.env := by rfl) →
    (hfew : ((backTo cpos (starEach [e] X.env)).all (fun x => !x.1) && (backToKw cpos (keywordEach [] X.env)).all (fun x => x.1.isSome) && decide ([e].length + ([] : List Keyword).length + (if ([] : List Keyword).isEmpty then 0 else 1) < 30)) = true := by rfl) →
    (hline : (apos.endLine == cpos.line) = true := by rfl) → (hs : starEach [e] X.env = (false, eval e X.env) :: starEach [] X.env := by rfl) → (hplain : (backTo cpos (starEach [] X.env)).any (·.1) = false := by rfl) →
    (hsw : swapsWith (.Call (.Attribute (.Name x p2) "append" apos) [e] [] cpos) none pos.line X.env = pure false := by rfl) →
    D1 κ X (.Expr (.Call (.Attribute (.Name x p2) "append" apos) [e] [] cpos) pos) (sApp i f) := fun hd hcd hbase hfew hline hs hplain hsw => d1_app i hN hv h hd hcd hbase hfew hline hs hplain hsw
theorem S_appV (i : Nat) {apos cpos : Pos} (h : DE κ X e f) (hN : X.N[i]? = some x := by rfl) (hv : Vis X.env.scope x := by first | exact Or.inl rfl | exact Or.inr (Or.inl rfl) | exact Or.inr (Or.inr rfl)) : 
    (hd : (x == ("__debug__" : Str)) = false := by decide) → (hcd : (x == ("__classdict__" : Str)) = false := by decide) → (hbase : attributeBase (.Name x p2) "append" X.env (eval (.Name x p2) X.env) = eval (.Name x p2) X.env := by rfl) →
    (hfew : ((backTo cpos (starEach [e] X.env)).all (fun x => !x.1) && (backToKw cpos (keywordEach [] X.env)).all (fun x => x.1.isSome) && decide ([e].length + ([] : List Keyword).length + (if ([] : List Keyword).isEmpty then 0 else 1) < 30)) = true := by rfl) →
    (hline : (apos.endLine == cpos.line) = true := by rfl) → (hs : starEach [e] X.env = (false, eval e X.env) :: starEach [] X.env := by rfl) → (hplain : (backTo cpos (starEach [] X.env)).any (·.1) = false := by rfl) →
    (hsw : swapsWith (.Call (.Attribute (.Name x p2) "append" apos) [e] [] cpos) none pos.line X.env = pure false := by rfl) →
    D1 κ X (.Expr (.Call (.Attribute (.Name x p2) "append" apos) [e] [] cpos) pos) (sAppV i f) := fun hd hcd hbase hfew hline hs hplain hsw => d1_appV i hN hv h hd hcd hbase hfew hline hs hplain hsw
theorem S_retS (i : Nat) (hN : X.N[i]? = some x := by rfl) (hv : Vis X.env.scope x := by first | exact Or.inl rfl | exact Or.inr (Or.inl rfl) | exact Or.inr (Or.inr rfl)) (hd : (x == ("__debug__" : Str)) = false := by decide) (hcd : (x == ("__classdict__" : Str)) = false := by decide) : D1 κ X (.Return (some (.Name x p2)) pos) (sRetS i) := d1_retS hN hv hd hcd
theorem S_for {iter : Expr} {body : List Stmt} {φ : SG} (hi : DI κ X tg iter far) (hg : SD κ X tg φ) (hb : DS κ X body s1) (hp : PassesOwn (model X.prog X.w) X.A X.env X.xe := by exact PassesOwn.never) (hc : X.calm = true := by rfl) (hs : ∀ x, foldedSetIterable iter X.env x = pure x := by intro _; rfl) : D1 κ X (.For tg iter body [] pos) (sFor far φ s1) := d1_for hp hc hi hg hb hs
theorem S_while {body : List Stmt} (hc : DT κ X e t1) (hb : DS κ X body s1) (hp : PassesOwn (model X.prog X.w) X.A X.env X.xe := by exact PassesOwn.never) : D1 κ X (.While e body [] pos) (sWhile t1 s1) := d1_while hp hc hb
theorem S_set (i : Nat) {p3 : Pos} {k : Expr} {fa fb : FE} (hva : DE κ X e fa) (hk : DE κ X k fb) (hN : X.N[i]? = some x := by rfl) (hv : Vis X.env.scope x := by first | exact Or.inl rfl | exact Or.inr (Or.inl rfl) | exact Or.inr (Or.inr rfl)) : 
    (hs : swapsWithSole [.Subscript (.Name x p2) k p3] e pos.line X.env = pure false := by rfl) → (hw : swappedStores [.Subscript (.Name x p2) k p3] e X.env = pure none := by rfl) →
    (h1 : (assignEach [.Subscript (.Name x p2) k p3] X.env).map (·.2) = [assign (.Subscript (.Name x p2) k p3) X.env] := by rfl) → (hix : PlainIx k := by exact fun _ _ => rfl) → (hd : (x == ("__debug__" : Str)) = false := by decide) → (hcd : (x == ("__classdict__" : Str)) = false := by decide) →
    (hg : ∀ {to ti : TE} {t : TSet}, PE X (.Name x p2) to → PE X k ti → PSet X t → PG X (.Subscript (.Name x p2) k p3) (L2.gSub to ti t) := by intro to ti t h1 h2 h3; exact pg_sub h1 h2 h3) →
    D1 κ X (.Assign [.Subscript (.Name x p2) k p3] e pos) (sSet i fa fb) := fun hs hw h1 hix hd hcd hg => d1_set i hN hv hva hk hs hw h1 hix hd hcd hg
section
variable {i : Nat} {y : Str} {py : Pos} {elt tg iter : Expr} {ifs : List Expr} {scope : Scope} {spos : Pos} {sl : List Nat} {φ : FG}
/-- the new list a value at once -/
theorem S_lcF (i : Nat) (own : List (Str × Nat)) (hN : X.N.Nodup) (hi : DI κ X tg iter far)
    (hg : ∀ (s : Shared) (H : Hp) (C : Addr) (cl : List (Str × Addr)) (fp : List Addr), DG κ (X.blk s H scope (compEnvC scope cl C X.env) fp) tg sl φ)
    (ht : ∀ (s : Shared) (H : Hp) (C : Addr) (cl : List (Str × Addr)) (fp : List Addr), DTs κ (X.blk s H scope (compEnvC scope cl C X.env) fp) ifs t1)
    (he : ∀ (s : Shared) (H : Hp) (C : Addr) (cl : List (Str × Addr)) (fp : List Addr), DE κ (X.blk s H scope (compEnvC scope cl C X.env) fp) elt f)
    (hy : X.N[i]? = some y := by rfl) (hyl : X.env.scope.names.lookup y = some .local := by rfl) (hc : X.calm = true := by rfl)
    (hsw : swapsWith (.ListComp elt [⟨tg, iter, ifs, 0⟩] scope pos) (some (.Name y py)) spos.line X.env = pure true := by exact sw_true rfl rfl rfl (by decide +kernel)) (ok : blkC X.N X.env.scope scope own = true := by rfl)
    (hsl : ∀ i ∈ sl, i ∈ own.map (·.2) := by decide) (hs : ∀ x, foldedSetIterable iter X.env x = pure x := by intro _; rfl) :
    D1 κ X (.Assign [.Name y py] (.ListComp elt [⟨tg, iter, ifs, 0⟩] scope pos) spos) (sAsg i (fFrz (oComp far φ t1 f (own.map (·.2))))) := by
  obtain ⟨w, pw, qw⟩ := hi
  exact ⟨_, PS.lk (ps_setLc hc hN hy hyl hsw pw (blkOk_by ok) (fun s H C cl fp => (hg s H C cl fp).can) (fun s H C cl fp => (ht s H C cl fp).can) (fun s H C cl fp => (he s H C cl fp).can) hs), asg_lift (DO.rdfr (lc_lift qw rd_tG rd_tT rd_tE hsl))⟩
end
theorem S_par (i j : Nat) {a b : Expr} {fxs : FXs} {x y : Str} {px py pt : Pos} {kt k2 pt2} (hN : X.N.Nodup) (h : DXs κ X [a, b] fxs) (hi : X.N[i]? = some x := by rfl) (hj : X.N[j]? = some y := by rfl) (hij : i ≠ j := by decide) (hxl : X.env.scope.names.lookup x = some .local := by rfl) (hyl : X.env.scope.names.lookup y = some .local := by rfl) (hc : X.calm = true := by rfl)
    (hw : swappedStores [.Tuple [.Name x px, .Name y py] kt pt] (.Tuple [a, b] k2 pt2) X.env = pure (some [x, y]) := by rfl) (hs : swapsWithSole [.Tuple [.Name x px, .Name y py] kt pt] (.Tuple [a, b] k2 pt2) pos.line X.env = pure false := by rfl) : D1 κ X (.Assign [.Tuple [.Name x px, .Name y py] kt pt] (.Tuple [a, b] k2 pt2) pos) (sPar [i, j] fxs) :=
  d1_par i j hc hN hi hj hij hxl hyl h fun {ta} p => ps_par hc hN hi hj hij hxl hyl p hw hs
theorem S_tup {tgs : List Expr} {is : List Nat} {fxs : FXs} {k1 k2 : _} {pt : Pos} (h : DXs κ X es fxs) (r : Names X tgs is) (hc : X.calm = true := by rfl) (hz : is.length ≤ 1000 := by decide) (hn : (assignEach tgs X.env).length = is.length := by rfl) (hst : (assignEach tgs X.env).findIdx? (·.1) = none := by rfl)
    (hs : swapsWithSole [.Tuple tgs k1 pt] (.Tuple es k2 p2) pos.line X.env = pure false := by rfl) (hw : swappedStores [.Tuple tgs k1 pt] (.Tuple es k2 p2) X.env = pure none := by rfl) (h1 : (assignEach [.Tuple tgs k1 pt] X.env).map (·.2) = [assign (.Tuple tgs k1 pt) X.env] := by rfl) :
    D1 κ X (.Assign [.Tuple tgs k1 pt] (.Tuple es k2 p2) pos) (sPar is fxs) := d1_tupAsg hc hz h r hn hst hs hw h1
theorem N_t {k n : Nat} {ψ : SGs} (h : SDs κ X es ψ) (hc : X.calm = true := by rfl) (hn : (assignEach es X.env).length = n := by rfl) (hst : (assignEach es X.env).findIdx? (·.1) = none := by rfl) : SD κ X (.Tuple es k pos) (nT n ψ) := sd_tup hc h hn hst
theorem G_t {k n : Nat} {sl : List Nat} {ψ : FGs} (h : DGs κ X es sl ψ) (hc : X.calm = true := by rfl) (hn : (assignEach es X.env).length = n := by rfl) (hst : (assignEach es X.env).findIdx? (·.1) = none := by rfl) : DG κ X (.Tuple es k pos) sl (gT n ψ) := dg_tup hc h hn hst
end
end DL
namespace DL
open PySem PySem.Spec PyProof.Rows L2
/-- what may stand at a place of the dice, n draws told -/
def DiceAt : Nat → Int → Nat → Prop
  | 0, d, _ => 0 ≤ d
  | 1, d, _ => 0 ≤ d ∧ d < 2147483629
  | 2, d, n => 0 ≤ d ∧ d ≤ n
  | 3, d, _ => 0 ≤ d ∧ d ≤ 63
  | _, _, _ => False
def DiceJ (P : Wd) (o : HO) : Prop := ∃ d0 d1 d2 d3 : Int, o = .lst [.int d0, .int d1, .int d2, .int d3] ∧ DiceAt 0 d0 P.n ∧ DiceAt 1 d1 P.n ∧ DiceAt 2 d2 P.n ∧ DiceAt 3 d3 P.n
theorem DiceAt.mono {i : Nat} {d : Int} {n m : Nat} (h : DiceAt i d n) (hn : n ≤ m) : DiceAt i d m := by
  match i, h with
  | 0, h => exact h
  | 1, h => exact h
  | 2, h => exact ⟨h.1, Int.le_trans h.2 (by omega)⟩
  | 3, h => exact h
theorem DiceJ.mono {P P' : Wd} {o : HO} (hn : P.n ≤ P'.n) (h : DiceJ P o) : DiceJ P' o := by
  obtain ⟨d0, d1, d2, d3, e, h0, h1, h2, h3⟩ := h
  exact ⟨d0, d1, d2, d3, e, h0.mono hn, h1.mono hn, h2.mono hn, h3.mono hn⟩
/-- a kit whose objects of kind 0 are dice -/
def HasDice (κ : Kit) : Prop := ∀ P o, κ.J 0 [] P o ↔ DiceJ P o
abbrev dice : D := .box 0 []
section
variable {κ : Kit} {X : Cx} {e : Expr} {f fa fb : FE} {pos p2 p3 : Pos} {x : Str} {k : Nat}
/-- dice[j] -/
@[simp] def fIxB (i j : Nat) : FE := fun env n Q => env[i]? = some (some dice) ∧ j < 4 ∧ ∀ d : Int, DiceAt j d n → Q (.int d) n
theorem e_ixB (i j : Nat) (hK : HasDice κ) {q : Expr} (hq : ∃ jj pp, q = .Constant (.int (j : Int)) jj pp) (hN : X.N[i]? = some x := by rfl) (hv : Vis X.env.scope x := by first | exact Or.inl rfl | exact Or.inr (Or.inl rfl) | exact Or.inr (Or.inr rfl))
    (hd : (x == ("__debug__" : Str)) = false := by decide) (hcd : (x == ("__classdict__" : Str)) = false := by decide) (hs : PlainIx q := by exact fun _ _ => rfl) : DE κ X (.Subscript (.Name x p2) q pos) (fIxB i j) := by
  obtain ⟨jj, pp, rfl⟩ := hq
  refine ⟨_, pe_ix ix_list (pe_var hN hv hd hcd) pe_int hs, fun P G H σ env Q R g ev hf hR => ?_⟩
  obtain ⟨h1, h2, hf⟩ := hf
  obtain ⟨u, q1, q2⟩ := ev.get i _ h1
  cases q2 with
  | box hb =>
    obtain ⟨hg, o, ho, hj⟩ := g.gi _ _ hb
    rw [hK] at hj
    obtain ⟨d0, d1, d2, d3, rfl, a0, a1, a2, a3⟩ := hj
    refine ⟨_, q1, ?_⟩
    have fin : ∀ d : Int, atI [V.int d0, V.int d1, V.int d2, V.int d3] (j : Int) = some (V.int d) → DiceAt j d P.n → rIxL X.K (V.ref _) (V.int (j : Int)) H R := fun d hd ha => ⟨_, _, _, _, rfl, rfl, SqL.of ho, hd, hR _ P G H _ .refl g .int (hf d ha)⟩
    match j, h2 with
    | 0, _ => exact fin d0 rfl a0
    | 1, _ => exact fin d1 rfl a1
    | 2, _ => exact fin d2 rfl a2
    | 3, _ => exact fin d3 rfl a3
/-- dice[j] = e: one more told -/
@[simp] def sSetB (i j : Nat) (f : FE) : FS := fun D env n => f (hide env) n fun d m => env[i]? = some (some (.val dice)) ∧ j < 4 ∧ ∃ z, d = .int z ∧ DiceAt j z (m + 1) ∧ D.nx env (m + 1)
theorem upd_grow {P : Wd} {G H : Hp} {a : Addr} {t : Nat × List D} {o : HO} (hi : P.iv a = some t) (m : Nat) (hm : P.n ≤ m) : Grow P G H { P with n := m } G (upd H a o) where
  fz := fun _ _ h => h
  iv := fun _ _ h => h
  n := hm
  g := fun _ _ h => h
  h := fun b u e n => by
    have : b ≠ a := fun z => by subst z; rw [hi] at n; cases n
    rw [upd_ne this]; exact e
  dom := fun b u e => by
    by_cases hb : b = a
    · subst hb; exact ⟨o, upd_same⟩
    · exact ⟨u, by rw [upd_ne hb]; exact e⟩
  fresh := fun _ _ _ => ⟨rfl, .inl rfl, .inl rfl⟩
theorem upd_good {P : Wd} {G H : Hp} {a : Addr} {t : Nat × List D} {o : HO} (g : Good κ P G H) (hi : P.iv a = some t) (m : Nat) (hm : P.n ≤ m) (ho : κ.J t.1 t.2 { P with n := m } o) : Good κ { P with n := m } G (upd H a o) where
  pg := g.pg
  fx := g.fx
  gh := fun b u e => by
    have : b ≠ a := fun z => by subst z; rw [(g.gi _ _ hi).1] at e; cases e
    exact (g.gh b u e).of (upd_ne this)
  gi := fun b s e => by
    by_cases hb : b = a
    · subst hb
      have e' : P.iv b = some s := e
      rw [hi] at e'; cases e'
      exact ⟨(g.gi _ _ hi).1, o, upd_same, ho⟩
    · obtain ⟨q1, u, q2, q3⟩ := g.gi b s e
      exact ⟨q1, u, by rw [upd_ne hb]; exact q2, κ.mono _ _ P _ u (fun _ _ h => h) (fun _ _ h => h) hm q3⟩
theorem S_setB (i j : Nat) (hK : HasDice κ) (hva : DE κ X e f) {q : Expr} (hq : ∃ jj pp, q = .Constant (.int (j : Int)) jj pp) (hN : X.N[i]? = some x := by rfl) (hv : Vis X.env.scope x := by first | exact Or.inl rfl | exact Or.inr (Or.inl rfl) | exact Or.inr (Or.inr rfl))
    (hs : swapsWithSole [.Subscript (.Name x p2) q p3] e pos.line X.env = pure false := by rfl) (hw : swappedStores [.Subscript (.Name x p2) q p3] e X.env = pure none := by rfl)
    (h1 : (assignEach [.Subscript (.Name x p2) q p3] X.env).map (·.2) = [assign (.Subscript (.Name x p2) q p3) X.env] := by rfl) (hd : (x == ("__debug__" : Str)) = false := by decide) (hcd : (x == ("__classdict__" : Str)) = false := by decide)
    (hg : ∀ {to ti : TE} {t : TSet}, PE X (.Name x p2) to → PE X q ti → PSet X t → PG X (.Subscript (.Name x p2) q p3) (L2.gSub to ti t) := by intro to ti t h1 h2 h3; exact pg_sub h1 h2 h3) :
    D1 κ X (.Assign [.Subscript (.Name x p2) q p3] e pos) (sSetB i j f) := by
  obtain ⟨t, p, qv⟩ := hva
  obtain ⟨jj, pp, rfl⟩ := hq
  refine ⟨_, ps_asg p (hg (pe_var hN hv hd hcd) pe_int set_list) hs hw h1, fun P0 G0 H0 P G H σ env D E gr g ev hf ok => ?_⟩
  refine at_hide qv g ev hf fun v P1 G1 H1 d gr1 g1 ev1 rv hq => ?_
  obtain ⟨h1, h2, z, ez, hz, hq⟩ := hq
  subst ez
  cases rv
  obtain ⟨u, q1, q2⟩ := ev1.get i _ h1
  cases q2 with
  | @box a _ _ hb =>
    obtain ⟨hg, o, ho, hj⟩ := g1.gi _ _ hb
    rw [hK] at hj
    obtain ⟨d0, d1, d2, d3, rfl, a0, a1, a2, a3⟩ := hj
    have hn : P1.n ≤ P1.n + 1 := Nat.le_succ _
    have fin : ∀ vs : List V, (κ.J 0 [] { P1 with n := P1.n + 1 } (.lst vs)) → E.nx σ (upd H1 a (.lst vs)) := fun vs hJ => by
      have gw := upd_grow (G := G1) (H := H1) (o := .lst vs) hb (P1.n + 1) hn
      exact ok.nx _ G1 _ σ env ((gr.trans gr1).trans gw) (upd_good g1 hb _ hn hJ) (ev1.grow gw) hq
    refine ⟨_, q1, a, _, (j : Int), j, rfl, rfl, ho, ?_, fin _ ?_⟩
    · match j, h2 with
      | 0, _ => rfl
      | 1, _ => rfl
      | 2, _ => rfl
      | 3, _ => rfl
    · rw [hK]
      match j, h2, hz with
      | 0, _, hz => exact ⟨z, d1, d2, d3, rfl, hz, a1.mono hn, a2.mono hn, a3.mono hn⟩
      | 1, _, hz => exact ⟨d0, z, d2, d3, rfl, a0.mono hn, hz, a2.mono hn, a3.mono hn⟩
      | 2, _, hz => exact ⟨d0, d1, z, d3, rfl, a0.mono hn, a1.mono hn, hz, a3.mono hn⟩
      | 3, _, hz => exact ⟨d0, d1, d2, z, rfl, a0.mono hn, a1.mono hn, a2.mono hn, hz⟩
end
/-- an own list of four numbers becomes dice -/
theorem dice_of {κ : Kit} (hK : HasDice κ) {P : Program} {w : World} {K : PySem.W.Frag} {mg : Str → Option Value} {base : Heap} {k j : Nat} {f : Addr} {fd : FuncData} {ps : List Str} {F F' : FC} (Fn : FnOk P w K mg base CX0 k f fd ps (spD κ j F))
    (h : ∀ ds n Q, F' ds n Q → F ds n fun s m => ∃ d0 d1 d2 d3 : Int, s = .own [.int d0, .int d1, .int d2, .int d3] ∧ DiceAt 0 d0 m ∧ DiceAt 1 d1 m ∧ DiceAt 2 d2 m ∧ DiceAt 3 d3 m ∧ Q (.val dice) m) : FnOk P w K mg base CX0 k f fd ps (spD κ j F') := by
  refine Fn.imp fun vs H Q E hs => ?_
  obtain ⟨hl, Pw, G, ds, QD, g, r, hf, hQ⟩ := hs
  refine ⟨hl, Pw, G, ds, _, g, r, h ds Pw.n QD hf, fun v s P' G' H' gr g' rs hq => ?_⟩
  obtain ⟨d0, d1, d2, d3, e, a0, a1, a2, a3, hq⟩ := hq
  subst e
  obtain ⟨a, ea, vs, h1, h2, h3, h4, h5, h6⟩ := rs
  subst ea
  have ev : vs = [V.int d0, V.int d1, V.int d2, V.int d3] := by
    have := Reps.of_ints (ns := [d0, d1, d2, d3]) h6
    simpa using this
  subst ev
  have iv' : ∀ b t, P'.iv b = some t → (fun c => if c = a then some (0, []) else P'.iv c) b = some t := fun b t e => by
    have : b ≠ a := fun z => by subst z; rw [h5] at e; cases e
    simp only [if_neg this]; exact e
  refine hQ (.ref a) (.val dice) { P' with iv := fun c => if c = a then some (0, []) else P'.iv c } G' H' ⟨gr.fz, fun b t e => iv' b t (gr.iv b t e), gr.n, gr.g, gr.h, gr.dom, fun b o e => ?_⟩ ⟨g'.pg, g'.gh, fun b t e => ?_, fun b t e => iv' b t (g'.fx b t e)⟩ (.box (by simp)) hq
  · obtain ⟨f1, f2, f3⟩ := gr.fresh b o e
    have : b ≠ a := fun z => by subst z; rw [h3] at e; cases e
    exact ⟨by simp only [if_neg this]; exact f1, f2, f3⟩
  · by_cases hb : b = a
    · subst hb
      simp only [if_true, Option.some.injEq] at e
      subst e
      exact ⟨h4, _, h1, (hK _ _).mpr ⟨d0, d1, d2, d3, rfl, a0, a1, a2, a3⟩⟩
    · simp only [if_neg hb] at e
      obtain ⟨q1, u, q2, q3⟩ := g'.gi b t e
      exact ⟨q1, u, q2, κ.mono _ _ P' _ u (fun _ _ h => h) iv' (Nat.le_refl _) q3⟩
end DL
namespace DL
open PySem PySem.Spec PyProof.Rows L2
/-- what stands at these places -/
def pick {α : Type} (xs : List α) (ix : List Nat) : List α := ix.filterMap fun i => xs[i]?
@[simp] theorem pick_nil {α : Type} (xs : List α) : pick xs [] = [] := rfl
@[simp] theorem pick_cons {α : Type} (xs : List α) (i : Nat) (ix : List Nat) : pick xs (i :: ix) = match xs[i]? with | some x => x :: pick xs ix | none => pick xs ix := by
  unfold pick
  cases e : xs[i]? with
  | none => rw [List.filterMap_cons_none e]
  | some x => rw [List.filterMap_cons_some e]
/-- a def of the module that keeps its promise, called with n positional values and these keywords -/
def CalN (κ : Kit) (P : Program) (w : World) (K : PySem.W.Frag) (mg : Str → Option Value) (base : Heap) (x : Str) (k j : Nat) (F : FC) (n : Nat) (ks : List Str) (ix : List Nat) (dds : List D) : Prop :=
  ∃ (f : Addr) (fd : FuncData) (ps : List Str) (dvs : List V) (its : List Value), FnOk P w K mg base CX0 k f fd ps (spD κ j F) ∧ mg x = some (.ref f) ∧ PySem.W.keepIn K (.ref f) = true ∧ KBn K fd ps n ks (fun us ws => pick (us ++ ws ++ its) ix) (fun vs zs => pick (vs ++ zs ++ dvs) ix) ∧ ∀ (G : Hp) (iv : IV), Reps κ G iv dvs dds
theorem CalN.mono {κ : Kit} {P : Program} {w : World} {K : PySem.W.Frag} {mg : Str → Option Value} {base : Heap} {x : Str} {k k' j : Nat} {F : FC} {n : Nat} {ks : List Str} {ix : List Nat} {dds : List D} (c : CalN κ P w K mg base x k j F n ks ix dds) (h : k ≤ k') : CalN κ P w K mg base x k' j F n ks ix dds := by
  obtain ⟨f, fd, ps, dvs, ds, Fn, r⟩ := c
  exact ⟨f, fd, ps, dvs, ds, Fn.mono h, r⟩
section
variable {κ : Kit} {X : Cx} {x : Str} {k k' j n : Nat} {F : FC} {ks : List Str} {ix : List Nat} {dds : List D} {e : Expr} {es : List Expr} {kws : List Keyword} {f : FE} {far fark : FA} {p pos kpos : Pos} {nm : Option Str}
/-- f(.., k = v) -/
@[simp] def xCallN (j : Nat) (F : FC) (n m : Nat) (ix : List Nat) (dds : List D) (far fark : FA) : FX := fun env n0 Q => far env n0 fun ds m1 => fark env m1 fun es m2 => ds.length = n ∧ es.length = m ∧ (pick (ds ++ es ++ dds) ix).length = j ∧ F (pick (ds ++ es ++ dds) ix) m2 Q
variable (c : CalN κ X.prog X.w X.K X.mg X.base x k j F n ks ix dds) (hr : Room k' X.A)
include hr
omit hr
/-- a value or a new list, seen -/
@[simp] def fOfX (fx : FX) : FE := fun env n Q => fx env n fun s k => Q s.view k
@[simp] def oOfX (fx : FX) : FA := fun env n Q => fx env n fun s k => ∃ xs, s = .own xs ∧ Q xs k
end
end DL
namespace DL
open PySem PySem.Spec PyProof.Rows L2
section
variable {κ : Kit} {X : Cx} {a b e : Expr} {f fa fb : FE} {te : TE} {k : Nat} {p p1 p2 p3 pos : Pos}
theorem made_rev (z : Str) (t u : Tok) : sliceMade z t none none (some (-1, u)) = .str ⟨z.cps.toList.reverse.toArray⟩ := by
  show (if ((-1 : Int) == 1 && _) = true then _ else _) = _
  rw [if_neg (by simp)]
  congr 2
  show ((sliceRange ((z.cps.size : Int) - 1) (-1) (-1)).filterMap (z.cps[·]?)).toArray = _
  rw [PySem.W.krv_sliceRange, PySem.W.krv_range, List.filterMap_reverse, PySem.W.krv_all]
def tRevE (K : PySem.W.Frag) (te : TE) : TE := fun σ H Q => te σ H fun x H1 => (∃ a xs, x = .ref a ∧ SqL K H1 a xs ∧ ∀ p, H1 p = none → Q (.ref p) (upd H1 p (.lst xs.reverse))) ∨ ∃ z : Str, x = .str z ∧ z.length ≤ sizeLine ∧ Q (.str ⟨z.cps.toList.reverse.toArray⟩) H1
theorem pe_revE (he : PE X e te) : PE X (.Subscript e (.Slice none none (some (.UnaryOp .USub (.Constant (.int 1) k p1) p2)) p3) pos) (tRevE X.K te) := by
  refine ⟨fun pins s σ H Q I h => ?_⟩
  refine Subscript_ (thn (he.run pins s σ H _ I h) fun v s1 ⟨x, H1, I1, r1, q1⟩ => ?_)
  have hst : PO X (some (.UnaryOp .USub (.Constant (.int 1) k p1) p2)) (tPart (tUn (rU fun i => .int (-i)) (tC (.int 1)))) := po_some (pe_un un_neg pe_int)
  refine wpAny_Slice (thn (po_none.run pins s1 σ H1 (fun o H2 => o = none ∧ H2 = H1) I1 ⟨rfl, rfl⟩) fun vl s2 ⟨l, H2, I2, pl, el, e2⟩ => ?_)
  subst el e2
  refine thn (po_none.run pins s2 σ H2 (fun o H3 => o = none ∧ H3 = H2) I2 ⟨rfl, rfl⟩) fun vu s3 ⟨u, H3, I3, pu, eu, e3⟩ => ?_
  subst eu e3
  refine thn (hst.run pins s3 σ H3 (fun o H4 => o = some (-1) ∧ H4 = H3) I3 ⟨1, rfl, -1, rfl, rfl, rfl⟩) fun vs s4 ⟨o, H4, I4, ps, eo, e4⟩ => ?_
  subst eo e4
  have I5 : Inv X pins σ H4 { s4 with heap := s4.heap.push { cls := .type "slice", data := .fields #[vl, vu, vs] } } := I4.kept (t' := s4.toks) fun b ob q => Heap.get?_push_of_some _ q
  rcases q1 with ⟨a, xs, ex, hx, q⟩ | ⟨z, ez, hz, q⟩
  · subst ex
    cases r1
    obtain ⟨its, r, ht, hz⟩ := I5.list hx
    have hlen := r.length
    show wpAny (model X.prog X.w) X.A (subscriptTail e (.Slice none none (some (.UnaryOp .USub (.Constant (.int 1) k p1) p2)) p3) (.ref a) (.ref s4.heap.objs.size)) (EP X pins σ Q) X.xe { s4 with heap := s4.heap.push { cls := .type "slice", data := .fields #[vl, vu, vs] } }
    refine tail_any (ops := [.ref a, .ref s4.heap.objs.size]) ht.isList.typeIs (PySem.slot_list_getitem.lookup) ?_ (by with_unfolding_all rfl)
    refine wpAny_getItem_list_slice ht.isList (Heap.IsSliceOf.new _ vl vu vs) pl pu ps (by decide) ?_ (by rw [List.size_toArray]; omega)
    rw [PySem.W.krv_pick]
    refine ⟨.ref _, _, I5.laid (t' := s4.toks) (o := .lst xs.reverse) (fun b ob q => Heap.get?_push_of_some _ q) (Nat.le_refl _) ?_, rfl, q _ (I5.hok.fresh (Nat.le_refl _))⟩
    exact ⟨by rw [List.length_reverse]; exact hz, _, 0, r.reverse, Heap.get?_push_size _ rfl⟩
  · subst ez
    obtain ⟨t, rfl⟩ := r1
    show wpAny (model X.prog X.w) X.A (subscriptTail e (.Slice none none (some (.UnaryOp .USub (.Constant (.int 1) k p1) p2)) p3) (.str z t) (.ref s4.heap.objs.size)) (EP X pins σ Q) X.xe { s4 with heap := s4.heap.push { cls := .type "slice", data := .fields #[vl, vu, vs] } }
    refine tail_any (ops := [.str z t, .ref s4.heap.objs.size]) (typeIs_str _ _ _) F.slot_str_getitem.lookup ?_ (by with_unfolding_all rfl)
    obtain ⟨l, rfl, e1⟩ := IsPart.raw pl
    obtain ⟨u, rfl, e2⟩ := IsPart.raw pu
    obtain ⟨o, rfl, e3⟩ := IsPart.raw ps
    obtain ⟨os, hos, hcs, hds⟩ := Heap.IsSliceOf.new s4.heap (partValue l) (partValue u) (partValue o)
    cases l with
    | some l => cases e1
    | none =>
    cases u with
    | some u => cases e2
    | none =>
    cases o with
    | none => cases e3
    | some o =>
    obtain ⟨i, t2⟩ := o
    cases e3
    refine wpAny_getItem_str_slice (l := none) (u := none) (st := some (Int.negSucc 0, t2)) ⟨os, hos, hcs, hds⟩ rfl ?_
    have ez : sliceMade z t none none (some (Int.negSucc 0, t2)) = .str ⟨z.cps.toList.reverse.toArray⟩ := made_rev z t t2
    rw [ez]
    exact ⟨by show z.cps.toList.reverse.toArray.size ≤ sizeLine; rw [List.size_toArray, List.length_reverse, Array.length_toList]; exact hz, .str _, _, I5.tok _, ⟨_, rfl⟩, q⟩
/-- e[::-1] -/
def gRev (x : D) (m : Nat) (Q : D → Nat → Prop) : Prop := match x with
  | .str s => Q (.str s.reverse) m
  | .lst xs => Q (.lst xs.reverse) m
  | _ => False
@[simp] def fRev (f : FE) : FE := fun env n Q => f env n fun x m => gRev x m Q
theorem e_rev (ha : DE κ X e f) (hK : κ.K = X.K := by rfl) : DE κ X (.Subscript e (.Slice none none (some (.UnaryOp .USub (.Constant (.int 1) k p1) p2)) p3) pos) (fRev f) := by
  obtain ⟨t, pt, q⟩ := ha
  refine ⟨_, pe_revE pt, fun P G H σ env Q R g ev hf hR => q P G H σ env _ _ g ev hf fun v P1 G1 H1 d gr g1 r hq => ?_⟩
  unfold gRev at hq
  split at hq
  · cases r with
    | str h => exact .inr ⟨_, rfl, h.1, hR _ P1 G1 H1 _ gr g1 (.str (s := _) (by
        refine ⟨by rw [List.length_reverse]; exact h.1, fun c hc => h.2 c (List.mem_reverse.mp hc)⟩)) hq⟩
  · cases r with
    | lst h z rs =>
      refine .inl ⟨_, _, rfl, SqL.of (g1.gx h rfl), fun p hp => ?_⟩
      have hg := g1.gnone hp
      exact hR _ P1 (upd G1 p (.lst _)) _ _ ((gr.put (gr.back hp)).frz (gr.back hp) hg) ((g1.new hp).frz hg (g1.inone hp) upd_same) (.lst upd_same (by rw [List.length_reverse]; exact z) (reps_frz hg rs.reverse)) hq
  · exact hq.elim
/-- list(range(..)) -/
def gListR1 (d : D) (m : Nat) (Q : List D → Nat → Prop) : Prop := match d with
  | .int j => (j ≤ 16777216 ∧ -(2 ^ 61) < j) ∧ Q (ups 0 j.toNat) m
  | _ => False
def gListR2 (d c : D) (k : Nat) (Q : List D → Nat → Prop) : Prop := match d, c with
  | .int i, .int j => (j - i ≤ 16777216 ∧ -(2 ^ 61) < i ∧ i < 2 ^ 61 ∧ -(2 ^ 61) < j) ∧ Q (ups i (j - i).toNat) k
  | _, _ => False
@[simp] def oListR1 (f : FE) : FA := fun env n Q => f env n fun d m => gListR1 d m Q
@[simp] def oListR2 (f h : FE) : FA := fun env n Q => f env n fun d m => h env m fun c k => gListR2 d c k Q
theorem reps_rg {G : Hp} {iv : IV} (i j : Int) : Reps κ G iv (rgV i j) (ups i (j - i).toNat) := by
  have := Reps.ints (κ := κ) (G := G) (iv := iv) (ns := (List.range (j - i).toNat).map fun k : Nat => i + (k : Int))
  rw [List.map_map, List.map_map] at this
  exact this
theorem o_listR1 (hm : X.mg "list" = none) (hr : X.mg "range" = none) (ha : DE κ X a fa) (hc : X.calm = true := by rfl) (hg : Gl X "list" := by rfl) (hg2 : Gl X "range" := by rfl) {q1 q2 : Pos}
    (na : starEach [.Call (.Name "range" p) [a] [] pos] X.env = (false, eval (.Call (.Name "range" p) [a] [] pos) X.env) :: starEach [] X.env := by rfl) (nb : starEach [a] X.env = (false, eval a X.env) :: starEach [] X.env := by rfl) :
    DO κ X (.Call (.Name "list" q1) [.Call (.Name "range" p) [a] [] pos] [] q2) (oListR1 fa) := by
  obtain ⟨t, pt, q⟩ := ha
  refine ⟨_, pe_listRg hc hg hm (prg_1 hg2 hr pt nb) na, fun P G H σ env Q R g ev hf hR => q P G H σ env _ _ g ev hf fun v P1 G1 H1 d gr g1 r hq => ?_⟩
  have hl : sizeLine = 16777216 := sizeLine_eq
  unfold gListR1 at hq
  split at hq
  · obtain ⟨hj, hq⟩ := hq
    cases r
    refine ⟨_, rfl, ⟨by omega, by omega, by omega, by omega, by omega⟩, fun p hp => ?_⟩
    have rr := reps_rg (κ := κ) (G := G1) (iv := P1.iv) 0 (by assumption)
    rw [Int.sub_zero] at rr
    exact hR p P1 G1 _ _ _ (gr.put (gr.back hp)) (g1.new hp) (gr.back hp) (g1.gnone hp) (g1.inone hp) upd_same (by rw [rgV_length]; omega) rr hq
  · exact hq.elim
end
end DL
namespace DL
open PySem PySem.Spec PyProof.Rows L2
/-- a dict behind d[k] = v -/
def putKs (ks : List D) (k : D) : List D := if k ∈ ks then ks else ks ++ [k]
def putVs : List D → List D → D → D → List D
  | k' :: ks, v' :: vs, k, v => if k' = k then v :: vs else v' :: putVs ks vs k v
  | _, _, _, v => [v]
open Classical in
theorem OkKs.put {k : Key} {ks : List Key} (h : OkKs ks) (hk : OkK k) : OkKs (if k ∈ ks then ks else ks ++ [k]) := by
  by_cases e : k ∈ ks
  · rw [if_pos e]; exact h
  · rw [if_neg e]
    refine ⟨List.nodup_append.mpr ⟨h.1, by simp, ?_⟩, fun j hj => ?_⟩
    · intro x hx y hy exy
      simp at hy
      subst hy exy
      exact e hx
    · rcases List.mem_append.mp hj with hj | hj
      · exact h.2 j hj
      · simp at hj; rw [hj]; exact hk
theorem rep_keyOk {κ : Kit} {G : Hp} {iv : IV} {v : V} {k : Key} (r : Rep κ G iv v (keyD k)) : v = kV k ∧ OkK k := by
  cases k with
  | inl i => cases r; exact ⟨rfl, trivial⟩
  | inr x =>
    cases r with
    | str h => exact ⟨rfl, h⟩
section
variable {κ : Kit} {X : Cx} {H0 : Hp} {P : Wd} {G H : Hp} {σ : L2.St} {env : SEnv} {a b e : Expr} {st : Stmt} {sts : List Stmt} {fa fb f : FE} {fo : FA} {ft t1 : FT} {s1 s2 : FS} {te : TE} {tt : TT} {pos : Pos} {es : List Expr} {far : FA}
@[simp] def sDct (i : Nat) : FS := fun D env n => D.nx (env.set i (some (.ownd [] []))) n
@[simp] def sSetD (i : Nat) (fv fk : FE) : FS := fun D env n => fv (hide env) n fun d m => ∃ ks vs, env[i]? = some (some (.ownd ks vs)) ∧ fk (hide env) m fun k m2 => isKeyD k = true ∧ ks.length < 16777216 ∧ D.nx (env.set i (some (.ownd (putKs ks k) (putVs ks vs k d)))) m2
@[simp] def sSetDV (i : Nat) (fv fk : FE) : FS := fun D env n => fv (view env) n fun d m => treeD d = true ∧ ∃ ks vs, env[i]? = some (some (.ownd ks vs)) ∧ fk (view env) m fun k m2 => treeD k = true ∧ isKeyD k = true ∧ ks.length < 16777216 ∧ D.nx (env.set i (some (.ownd (putKs ks k) (putVs ks vs k d)))) m2
/-- a number times a number -/
def gMulI (x y : D) (n : Nat) (Q : D → Nat → Prop) : Prop := ∃ i j, x = .int i ∧ y = .int j ∧ MulOk i j ∧ Q (.int (i * j)) n
@[simp] theorem w_mulI {i j : Int} {n : Nat} {Q : D → Nat → Prop} : gMulI (.int i) (.int j) n Q = (MulOk i j ∧ Q (.int (i * j)) n) := by
  refine propext ⟨?_, fun h => ⟨i, j, rfl, rfl, h⟩⟩
  rintro ⟨a, b, e1, e2, h⟩
  cases e1; cases e2
  exact h
def downs (hi : Int) (n : Nat) : List D := (List.range n).map fun i => .int (hi - (i : Nat))
def gRange3 (ds : List D) (m : Nat) (Q : List D → Nat → Prop) : Prop := match ds with
  | [.int i, .int j, .int c] => c = -1 ∧ (i - j ≤ 16777216 ∧ -(2 ^ 61) < i ∧ i < 2 ^ 61 ∧ -(2 ^ 61) < j ∧ j < 2 ^ 61) ∧ Q (downs i (i - j).toNat) m
  | _ => False
@[simp] theorem w_rg3 {i j c : Int} {n : Nat} {R : List D → Nat → Prop} : gRange3 [.int i, .int j, .int c] n R = (c = -1 ∧ (i - j ≤ 16777216 ∧ -2305843009213693952 < i ∧ i < 2305843009213693952 ∧ -2305843009213693952 < j ∧ j < 2305843009213693952) ∧ R (downs i (i - j).toNat) n) := rfl
@[simp] def iRange3 (fa : FA) : FA := fun env n Q => fa env n fun ds m => gRange3 ds m Q
theorem i_r3 {c tg : Expr} {fa fb fc : FE} {p : Pos} (hm : X.mg "range" = none) (ha : DE κ X a fa) (hb : DE κ X b fb) (hc : DE κ X c fc) (hg : Gl X "range" := by rfl) (hs : starEach [a, b, c] X.env = (false, eval a X.env) :: starEach [b, c] X.env := by rfl) (hs1 : starEach [b, c] X.env = (false, eval b X.env) :: starEach [c] X.env := by rfl) (hs2 : starEach [c] X.env = (false, eval c X.env) :: starEach [] X.env := by rfl) (hpl : (backTo pos (starEach [b, c] X.env)).any (·.1) = false := by rfl) :
    DI κ X tg (.Call (.Name "range" p) [a, b, c] [] pos) (iRange3 (aCons fa (aCons fb (aCons fc aNil)))) := by
  obtain ⟨ta, pa, qa⟩ := da_cons ha (da_cons hb (da_cons hc da_nil hs2) hs1) hs
  refine DI0.j ⟨_, pi_range3 hg hm pa hs hpl, fun P G H σ env Q R g ev hf hR => ?_⟩
  refine qa P G H σ env _ _ g ev hf fun vs P1 G1 H1 ds gr g1 r hq => ?_
  have hsz : sizeLine = 16777216 := PySem.sizeLine_eq
  unfold gRange3 at hq
  split at hq
  · rename_i i j c
    obtain ⟨rfl, ⟨h1, h2, h3, h4, h5⟩, hq⟩ := hq
    cases r with
    | cons r r' => cases r' with
      | cons r1 r' => cases r' with
        | cons r2 r' =>
          cases r'; cases r; cases r1; cases r2
          refine ⟨i, j, -1, (i - j).toNat, rfl, RgC.neg (by omega) (by omega) (by omega) (by omega), ?_⟩
          refine hR _ P1 G1 H1 _ gr g1 ⟨?_, fun k P2 G2 H2 ex g2 => ⟨fun hk => ?_, fun hk => ?_⟩⟩ hq
          · simp only [downs, List.length_map, List.length_range]; omega
          · simp only [downs, List.length_map, List.length_range] at hk
            refine ⟨hk, fun v H3 hy => ?_⟩
            obtain ⟨rfl, rfl⟩ := hy
            refine ⟨G2, .int (i + (k : Nat) * (-1)), .refl, g2, ?_, .int⟩
            rw [downs, List.getElem?_map, List.getElem?_range hk]
            simp
            omega
          · simp only [downs, List.length_map, List.length_range] at hk
            show (i - j).toNat ≤ k
            omega
  · exact hq.elim
/-- {} as one of several -/
@[simp] def xDct : FX := fun _ n Q => Q (.ownd [] []) n
/-- {} as a value -/
@[simp] def fDct0 : FE := fun _ n Q => Q (.dct [] []) n
theorem e_dct0 {pd : Pos} : DE κ X (.Dict [] [] pd) fDct0 := ⟨_, pe_dnewK, fun P G H σ env Q R g ev hf hR p hp =>
  hR _ P (upd G p (.dK [])) _ _ ((Grow.new hp).frz hp (g.gnone hp)) ((g.new hp).frz (g.gnone hp) (g.inone hp) upd_same) (.dctK (ks := []) (us := []) upd_same rfl (Nat.zero_le _) ⟨List.nodup_nil, fun _ h => nomatch h⟩ .nil) hf⟩
end
end DL
namespace DL
open PySem PySem.Spec PyProof.Rows L2
section
variable {κ : Kit} {X : Cx} {a b c e o tg : Expr} {es : List Expr} {fa fb fc f : FE} {far far1 : FA} {pos : Pos} {t1 t2 : FT}
def tI (κ : Kit) (f : FA) : TI := fun σ H R => ∃ (P : Wd) (G : Hp) (env : DEnv) (Q : List D → Nat → Prop), Good κ P G H ∧ EnvR κ G P.iv σ env ∧ f env P.n Q ∧ LkI κ P G H Q R
theorem DI0.can {Y : Cx} {iter : Expr} (h : DI0 κ Y tg iter far) : PI Y tg iter (tI κ far) := by
  obtain ⟨w, p, q⟩ := h
  refine ⟨fun pins s σ H R I hw => ?_⟩
  obtain ⟨P, G, env, Q, g, ev, hf, hR⟩ := hw
  exact p.run pins s σ H R I (q P G H σ env Q R g ev hf hR)
def go2 (tg : FG) (tt : FT) (it1 : FA) (tg1 : FG) (tt1 : FT) (te : FE) (vs1 : List Nat) (env : DEnv) : List D → Nat → Nat → (List D → Nat → Prop) → Prop
  | [], _, n, Q => Q [] n
  | x :: xs, k, n, Q => tg x env fun env1 => tt env1 n fun b n1 => if b = true then it1 env1 n1 fun ys n2 => k + ys.length ≤ 16777216 ∧ goD tg1 tt1 te (wipeE env1 vs1) ys n2 fun zs n3 => go2 tg tt it1 tg1 tt1 te vs1 env xs (k + zs.length) n3 fun ws n4 => Q (zs ++ ws) n4 else go2 tg tt it1 tg1 tt1 te vs1 env xs k n1 Q
@[simp] def oComp2 (it : FA) (tg : FG) (tt : FT) (it1 : FA) (tg1 : FG) (tt1 : FT) (te : FE) (vs vs1 : List Nat) : FA := fun env n Q => it env n fun xs n1 => go2 tg tt it1 tg1 tt1 te vs1 (wipeE env vs) xs 0 n1 Q
abbrev Acc (κ : Kit) (P0 : Wd) (G0 H0 : Hp) (D : Addr) (acc : List V) (accD : List DL.D) (P : Wd) (G H : Hp) : Prop := Grow P0 G0 H0 P G H ∧ Good κ P G H ∧ G D = none ∧ P.iv D = none ∧ H D = some (.lst acc) ∧ Reps κ G P.iv acc accD
theorem Acc.step {P0 P P1 : Wd} {G0 H0 G H G1 H1 : Hp} {D : Addr} {acc : List V} {accD : List DL.D} (a : Acc κ P0 G0 H0 D acc accD P G H) (gr : Grow P G H P1 G1 H1) (g1 : Good κ P1 G1 H1) : Acc κ P0 G0 H0 D acc accD P1 G1 H1 := by
  obtain ⟨a1, a2, a3, a4, a5, a6⟩ := a
  obtain ⟨f1, f2, _⟩ := gr.fresh D _ a5
  have f3 := gr.same a5
  exact ⟨a1.trans gr, g1, by rw [f3]; exact a3, by rw [f1]; exact a4, gr.h D _ a5 a4, gr.reps a6⟩
variable {iter iter1 tg1 elt : Expr} {ifs ifs1 : List Expr} {scope : Scope} {sl sl1 vs1 : List Nat} {φ φ1 : FG}
end
end DL
namespace DL
open PySem PySem.Spec PyProof.Rows L2
section
variable {n : Nat} {Q : D → Nat → Prop} {R : List D → Nat → Prop} {i j : Int} {s t : List Nat} {xs ys ks vs ds : List D} {x y k : D} {b : Bool} {ns : List Int} {lo hi : Option Int}
@[simp] theorem w_add1 : gAdd (.int i) (.int j) n Q = Q (.int (i + j)) n := rfl
@[simp] theorem w_add2 : gAdd (.str s) (.str t) n Q = (s.length + t.length ≤ sizeLine ∧ Q (.str (s ++ t)) n) := rfl
@[simp] theorem w_add3 : gAdd3 (.int i) (.int j) n Q = Q (.int (i + j)) n := rfl
@[simp] theorem w_add4 : gAdd3 (.str s) (.str t) n Q = (s.length + t.length ≤ 16777216 ∧ Q (.str (s ++ t)) n) := rfl
@[simp] theorem w_add5 : gAdd3 (.lst xs) (.lst ys) n Q = (xs.length + ys.length ≤ 16777216 ∧ Q (.lst (xs ++ ys)) n) := rfl
@[simp] theorem w_add6 : gAdd3 (.tup xs) (.tup ys) n Q = (xs.length + ys.length ≤ 16777216 ∧ Q (.tup (xs ++ ys)) n) := rfl
@[simp] theorem w_sub : gSub (.int i) (.int j) n Q = Q (.int (i - j)) n := rfl
@[simp] theorem w_oadd : oAdd (.lst xs) (.lst ys) n R = (xs.length + ys.length ≤ sizeLine ∧ R (xs ++ ys) n) := rfl
@[simp] theorem w_mul1 : gMul (.int i) (.int j) n Q = (MulOk i j ∧ Q (.int (i * j)) n) := rfl
@[simp] theorem w_mul2 : gMul (.str s) (.int i) n Q = ((i < 4611686018427387904 ∧ -4611686018427387904 < i ∧ s.length * i.toNat ≤ sizeLine) ∧ Q (.str (List.replicate i.toNat s).flatten) n) := rfl
@[simp] theorem w_div : gDiv (.int i) (.int j) n Q = (DivOk j ∧ Q (.int (i / j)) n) := rfl
@[simp] theorem w_mod : gMod (.int i) (.int j) n Q = (0 < j ∧ Q (.int (i % j)) n) := rfl
@[simp] theorem w_pow : gPow (.int i) (.int j) n Q = (CPowW i j ∧ Q (.int (i ^ j.toNat)) n) := rfl
@[simp] theorem w_neg : gNeg (.int i) n Q = Q (.int (-i)) n := rfl
@[simp] theorem w_lt1 : gLt (.int i) (.int j) n Q = Q (.bl (decide (i < j))) n := rfl
@[simp] theorem w_lt2 : gLt (.str s) (.str t) n Q = Q (.bl (decide (s < t))) n := rfl
@[simp] theorem w_le1 : gLe (.int i) (.int j) n Q = Q (.bl (decide (i ≤ j))) n := rfl
@[simp] theorem w_le2 : gLe (.str s) (.str t) n Q = Q (.bl (!decide (t < s))) n := rfl
@[simp] theorem w_in1 : gIn x (.lst ys) n Q = ((flatD x = true ∧ ys.all flatD = true) ∧ Q (.bl (ys.any fun y => eqD y x)) n) := rfl
@[simp] theorem w_in2 : gIn x (.tup ys) n Q = ((flatD x = true ∧ ys.all flatD = true) ∧ Q (.bl (ys.any fun y => eqD y x)) n) := rfl
@[simp] theorem w_in3 : gIn x (.str t) n Q = (∃ c, x = .str [c] ∧ Q (.bl (decide (c ∈ t))) n) := rfl
@[simp] theorem w_in4 : gIn x (.dct ks vs) n Q = (isKeyD x = true ∧ Q (.bl (dGet ks vs x).isSome) n) := rfl
@[simp] theorem w_in5 : gIn x (.dcu ks vs) n Q = (dKind (.dcu ks vs) x = true ∧ Q (.bl (dGet ks vs x).isSome) n) := rfl
@[simp] theorem w_len1 : gLen [.str s] n Q = Q (.int s.length) n := rfl
@[simp] theorem w_len2 : gLen [.lst xs] n Q = Q (.int xs.length) n := rfl
@[simp] theorem w_len3 : gLen [.tup xs] n Q = Q (.int xs.length) n := rfl
@[simp] theorem w_len4 : gLen [.dct ks vs] n Q = Q (.int ks.length) n := rfl
@[simp] theorem w_len5 : gLen [.scr ns] n Q = Q (.int ns.length) n := rfl
@[simp] theorem w_min1 : gMin [.int i, .int j] n Q = Q (.int (min i j)) n := rfl
@[simp] theorem w_min2 : gMin [.lst xs] n Q = (∃ ns : List Int, [D.lst xs] = [.lst (ns.map D.int)] ∧ ns ≠ [] ∧ ∀ m, m ∈ ns → (∀ y ∈ ns, m ≤ y) → Q (.int m) n) := rfl
@[simp] theorem w_max1 : gMax [.int i, .int j] n Q = Q (.int (max i j)) n := rfl
@[simp] theorem w_max2 : gMax [.lst xs] n Q = (∃ ns : List Int, [D.lst xs] = [.lst (ns.map D.int)] ∧ ns ≠ [] ∧ ∀ m, m ∈ ns → (∀ y ∈ ns, y ≤ m) → Q (.int m) n) := rfl
@[simp] theorem w_int1 : gInt [.int i] n Q = Q (.int i) n := rfl
@[simp] theorem w_int2 : gInt [.bl b] n Q = Q (.int (if b then 1 else 0)) n := rfl
@[simp] theorem w_list1 : oList [.str s] n R = R (s.map fun c => .str [c]) n := rfl
@[simp] theorem w_list2 : oList [.lst xs] n R = R xs n := rfl
@[simp] theorem w_list3 : oList [.tup xs] n R = R xs n := rfl
@[simp] theorem w_ix1 : gIx (.lst xs) (.int i) n Q = (∃ v, atI xs i = some v ∧ Q v n) := rfl
@[simp] theorem w_ix2 : gIx (.tup xs) (.int i) n Q = (∃ v, atI xs i = some v ∧ Q v n) := rfl
@[simp] theorem w_ix3 : gIx (.str s) (.int i) n Q = (∃ c, atI s i = some c ∧ Q (.str [c]) n) := rfl
@[simp] theorem w_ix4 : gIx (.dct ks vs) k n Q = (isKeyD k = true ∧ ∃ v, dGet ks vs k = some v ∧ Q v n) := by cases k <;> rfl
@[simp] theorem w_ix5 : gIx (.dcu ks vs) k n Q = (dKind (.dcu ks vs) k = true ∧ ∃ v, dGet ks vs k = some v ∧ Q v n) := by cases k <;> rfl
@[simp] theorem w_starts : gStarts (.str s) (.str t) n Q = Q (.bl (s.take t.length == t)) n := rfl
@[simp] theorem w_bits : gBits (.int i) n Q = Q (.int (Builtin.Int.intBits i : Nat)) n := rfl
@[simp] theorem w_sl1 : gSl (.str s) lo hi n Q = Q (.str (cutL s lo hi)) n := rfl
@[simp] theorem w_sl2 : gSl (.tup xs) lo hi n Q = (¬ (HT.sIx xs.length 0 lo = 0 ∧ HT.sIx xs.length xs.length hi = xs.length) ∧ Q (.tup (cutL xs lo hi)) n) := rfl
@[simp] theorem w_sl3 : gSl (.lst xs) lo hi n Q = Q (.lst (cutL xs lo hi)) n := rfl
@[simp] theorem w_sl4 : gSl (.scr ns) lo hi n Q = Q (.lst ((cutL ns lo hi).map D.int)) n := rfl
@[simp] theorem w_rev1 : gRev (.str s) n Q = Q (.str s.reverse) n := rfl
@[simp] theorem w_rev2 : gRev (.lst xs) n Q = Q (.lst xs.reverse) n := rfl
@[simp] theorem w_lr1 : gListR1 (.int j) n R = ((j ≤ 16777216 ∧ -2305843009213693952 < j) ∧ R (ups 0 j.toNat) n) := rfl
@[simp] theorem w_lr2 : gListR2 (.int i) (.int j) n R = ((j - i ≤ 16777216 ∧ -2305843009213693952 < i ∧ i < 2305843009213693952 ∧ -2305843009213693952 < j) ∧ R (ups i (j - i).toNat) n) := rfl
@[simp] theorem w_seq1 : gSeq (.lst xs) n R = R xs n := rfl
@[simp] theorem w_seq2 : gSeq (.tup xs) n R = R xs n := rfl
@[simp] theorem w_seq3 : gSeq (.str s) n R = R (s.map fun c => .str [c]) n := rfl
@[simp] theorem w_seqn1 : gSeqN (.lst xs) n R = R xs n := rfl
@[simp] theorem w_seqn2 : gSeqN (.tup xs) n R = R xs n := rfl
@[simp] theorem w_seqn3 : gSeqN (.str s) n R = R (s.map fun c => .str [c]) n := rfl
@[simp] theorem w_seqn4 : gSeqN (.dct ks vs) n R = R ks n := rfl
@[simp] theorem w_seqn6 : gSeqN (.dcu ks vs) n R = R ks n := rfl
@[simp] theorem w_rg1 : gRange1 [.int j] n R = ((j ≤ 16777216 ∧ -2305843009213693952 < j) ∧ R (ups 0 j.toNat) n) := rfl
@[simp] theorem w_rg2 : gRange2 [.int i, .int j] n R = ((j - i ≤ 16777216 ∧ -2305843009213693952 < i ∧ i < 2305843009213693952 ∧ -2305843009213693952 < j) ∧ R (ups i (j - i).toNat) n) := rfl
@[simp] theorem w_enum : gEnumD [.lst xs] n R = R (enumD 0 xs) n := rfl
@[simp] theorem w_zip1 : gZipD [.lst xs, .lst ys] n R = R (zipD xs ys) n := rfl
@[simp] theorem w_zip2 : gZipD [.tup xs, .tup ys] n R = R (zipD xs ys) n := rfl
@[simp] theorem w_nsn {env : SEnv} {P : SEnv → Prop} : nsNil [] env P = P env := rfl
@[simp] theorem w_nsc {φ : SG} {ψ : SGs} {env : SEnv} {P : SEnv → Prop} : nsCons φ ψ (x :: xs) env P = φ x env fun env' => ψ xs env' P := rfl
@[simp] theorem w_nt {m : Nat} {ψ : SGs} {env : SEnv} {P : SEnv → Prop} : nT m ψ (.tup ds) env P = (ds.length = m ∧ ψ ds env P) := rfl
@[simp] theorem w_gsn {env : DEnv} {P : DEnv → Prop} : gsNil [] env P = P env := rfl
@[simp] theorem w_gsc {φ : FG} {ψ : FGs} {env : DEnv} {P : DEnv → Prop} : gsCons φ ψ (x :: xs) env P = φ x env fun env' => ψ xs env' P := rfl
@[simp] theorem w_gt {m : Nat} {ψ : FGs} {env : DEnv} {P : DEnv → Prop} : gT m ψ (.tup ds) env P = (ds.length = m ∧ ψ ds env P) := rfl
end
end DL
namespace DL
open PySem L2
/-- one item of a comprehension -/
def stepD (tg : FG) (tt : FT) (te : FE) (env : DEnv) (x : D) (n : Nat) (K : Option D → Nat → Prop) : Prop := tg x env fun env' => tt env' n fun b n1 => if b = true then te env' n1 fun y n2 => K (some y) n2 else K none n1
theorem goD_step {tg : FG} {tt : FT} {te : FE} {env : DEnv} {x : D} {xs : List D} {n : Nat} {Q : List D → Nat → Prop} (h : stepD tg tt te env x n fun o m => match o with | some y => goD tg tt te env xs m fun ys k => Q (y :: ys) k | none => goD tg tt te env xs m Q) : goD tg tt te env (x :: xs) n Q := h
/-- a comprehension whose items are reckoned without draws -/
theorem goD_pure {α : Type} {c : α → D} {tg : FG} {tt : FT} {te : FE} {env : DEnv} (r : α → Option D) : ∀ {xs : List α} {n : Nat} {Q : List D → Nat → Prop}, (∀ a ∈ xs, ∀ m K, K (r a) m → stepD tg tt te env (c a) m K) → Q (xs.filterMap r) n → goD tg tt te env (xs.map c) n Q
  | [], n, Q, _, h => h
  | a :: xs, n, Q, H, h => goD_step (H a (List.mem_cons_self ..) n _ (by
      cases e : r a with
      | none =>
        rw [List.filterMap_cons_none e] at h
        exact goD_pure r (fun b hb => H b (List.mem_cons_of_mem _ hb)) h
      | some y =>
        rw [List.filterMap_cons_some e] at h
        exact goD_pure r (Q := fun ys k => Q (y :: ys) k) (fun b hb => H b (List.mem_cons_of_mem _ hb)) h))
theorem goD_map {α : Type} {c : α → D} {tg : FG} {tt : FT} {te : FE} {env : DEnv} (r : α → D) {xs : List α} {n : Nat} {Q : List D → Nat → Prop} (H : ∀ a ∈ xs, ∀ m K, K (some (r a)) m → stepD tg tt te env (c a) m K) (h : Q (xs.map r) n) : goD tg tt te env (xs.map c) n Q :=
  goD_pure (fun a => some (r a)) H (by rw [show xs.filterMap (fun a => some (r a)) = xs.map r from by simp]; exact h)
theorem goD_filter {α : Type} {c : α → D} {tg : FG} {tt : FT} {te : FE} {env : DEnv} (p : α → Bool) (r : α → D) {xs : List α} {n : Nat} {Q : List D → Nat → Prop} (H : ∀ a ∈ xs, ∀ m K, (p a = true → K (some (r a)) m) → (p a = false → K none m) → stepD tg tt te env (c a) m K) (h : Q ((xs.filter p).map r) n) : goD tg tt te env (xs.map c) n Q := by
  refine goD_pure (fun a => if p a = true then some (r a) else none) (fun a ha m K hK => H a ha m K (fun e => by rw [if_pos e] at hK; exact hK) (fun e => by rw [if_neg (by rw [e]; decide)] at hK; exact hK)) ?_
  have : xs.filterMap (fun a => if p a = true then some (r a) else none) = (xs.filter p).map r := by
    clear H h
    induction xs with
    | nil => rfl
    | cons x xs ih =>
      by_cases e : p x = true
      · rw [List.filterMap_cons_some (by rw [if_pos e]), List.filter_cons_of_pos e, List.map_cons, ih]
      · rw [List.filterMap_cons_none (by rw [if_neg e]), List.filter_cons_of_neg e, ih]
  rw [this]; exact h
/-- the same where each item gives one -/
theorem goD_draws {α : Type} {f : α → D} {tg : FG} {tt : FT} {te : FE} {env : DEnv} (c : Nat) (P : D → Prop) (B : Nat) : ∀ {xs : List α} {n : Nat} {Q : List D → Nat → Prop}, n + c * xs.length ≤ B → (∀ a ∈ xs, ∀ m K, m + c ≤ B → (∀ y k, m ≤ k → k ≤ m + c → P y → K (some y) k) → stepD tg tt te env (f a) m K) →
    (∀ ys m, n ≤ m → m ≤ n + c * xs.length → (∀ y ∈ ys, P y) → ys.length = xs.length → Q ys m) → goD tg tt te env (xs.map f) n Q
  | [], n, Q, hB, _, h => h [] n (Nat.le_refl _) (by simp) (fun _ h => nomatch h) rfl
  | a :: xs, n, Q, hB, H, h => by
    rw [List.length_cons, Nat.mul_succ] at hB
    refine goD_step (H a (List.mem_cons_self ..) n _ (by omega) fun y k h1 h2 hP => ?_)
    refine goD_draws c P B (by omega) (fun b hb => H b (List.mem_cons_of_mem _ hb)) fun ys m w1 w2 w3 w4 => h (y :: ys) m (by omega) (by rw [List.length_cons, Nat.mul_succ]; omega) (fun z hz => ?_) (by rw [List.length_cons, List.length_cons, w4])
    rcases List.mem_cons.mp hz with rfl | hz
    · exact hP
    · exact w3 z hz
/-- a loop by what holds behind each turn -/
theorem forD_inv {α : Type} {c : α → D} {tg : SG} {body : FS} {E : DEnds} (I : List α → SEnv → Nat → Prop) {xs : List α}
    (H : ∀ (pre : List α) (a : α) (post : List α) (env : SEnv) (n : Nat) (next : SEnv → Nat → Prop), xs = pre ++ a :: post → I pre env n → (∀ e m, I (pre ++ [a]) e m → next e m) → tg (c a) env fun env' => body { nx := next, ct := next, bk := E.nx, rt := E.rt } env' n)
    (hE : ∀ env n, I xs env n → E.nx env n) {env : SEnv} {n : Nat} (h0 : I [] env n) : forD tg body E (xs.map c) env n := by
  have key : ∀ (post pre : List α) env n, xs = pre ++ post → I pre env n → forD tg body E (post.map c) env n := by
    intro post
    induction post with
    | nil =>
      intro pre env n e h
      rw [List.append_nil] at e
      subst e
      exact hE env n h
    | cons a post ih =>
      intro pre env n e h
      exact H pre a post env n _ e h fun e2 m h2 => ih (pre ++ [a]) e2 m (by rw [e]; simp) h2
  exact key xs [] env n rfl h0
theorem ups_eq (lo : Int) (n : Nat) : ups lo n = (List.range n).map fun i : Nat => D.int (lo + (i : Int)) := rfl
abbrev LIM : Nat := 1000000000000000000
/-- what one draw tells at the most -/
abbrev DRW : Nat := 400
def F_mixed : FC := fun ds n Q => ∃ a b c : Int, ds = [.int a, .int b, .int c] ∧ (0 ≤ a ∧ a < 2147483648) ∧ (0 ≤ b ∧ b < 1152921504606846976) ∧ (0 ≤ c ∧ c ≤ 63) ∧ ∀ r : Int, 0 ≤ r → r < 2147483587 → Q (.val (.int r)) n
def F_draw : FC := fun ds n Q => ∃ many : Int, ds = [dice, .int many] ∧ 1 ≤ many ∧ many.natAbs.log2 < 9000 ∧ n + DRW ≤ LIM ∧ ∀ (r : Int) (m : Nat), 0 ≤ r → r < many → n ≤ m → m ≤ n + DRW → Q (.val (.int r)) m
def F_one_of : FC := fun ds n Q => ∃ xs : List D, ds = [dice, .lst xs] ∧ xs ≠ [] ∧ xs.length ≤ 16777216 ∧ n + DRW ≤ LIM ∧ ∀ (x : D) (m : Nat), x ∈ xs → n ≤ m → m ≤ n + DRW → Q (.val x) m
def F_dice0 : FC := fun ds n Q => ∃ (ns : List Int) (i : Int), ds = [.scr ns, .int i] ∧ 0 ≤ i ∧ i ≤ 62 ∧ ∀ d0 d1 : Int, 0 ≤ d0 → (0 ≤ d1 ∧ d1 < 2147483629) → Q (.own [.int d0, .int d1, .int 0, .int i]) n
def F_dice : FC := fun ds n Q => ∃ (ns : List Int) (i : Int), ds = [.scr ns, .int i] ∧ 0 ≤ i ∧ i ≤ 62 ∧ Q (.val dice) n
def F_dices : FC := fun ds n Q => ∃ (ns : List Int) (few : Int), ds = [.scr ns, .int few] ∧ ns.length ≤ 63 ∧ 1 ≤ few ∧ few ≤ 60 ∧ ∀ k : Nat, 1 ≤ k → k ≤ few.toNat → Q (.own (List.replicate k dice)) n
/-- plain data of depth at most k: told alike exactly if it is the same -/
def F_exact (k : Nat) : FC := fun ds n Q => ∃ x y : D, ds = [x, y] ∧ plain k x = true ∧ plain k y = true ∧ Q (.val (.bl (decide (x = y)))) n
def F_none : FC := fun _ _ _ => False
def pr_mixed : FS := (sSeq (sAsg 3 (f2 gAdd3 (f2 gMul (fVar 0) (fC (.int 69069))) (f2 gMul (f2 gMul (fC (.int 104729)) (fVar 1)) (fVar 1)))) (sSeq (sAsg 3 (f2 gMod (fCl gInt (aCons (f2 gAdd3 (f2 gAdd3 (fVar 3) (f2 gMul (fC (.int 7919)) (fVar 2))) (fVar 1)) aNil)) (fC (.int 2147483647)))) (sSeq (sAsg 3 (f2 gMod (fCl gInt (aCons (f2 gAdd3 (f2 gMul (fVar 3) (fVar 3)) (fC (.int 40503))) aNil)) (fC (.int 2147483629)))) (sRet (f2 gMod (fCl gInt (aCons (f2 gMul (fVar 3) (fC (.int 48271))) aNil)) (fC (.int 2147483587)))))))
def pr_draw : FS := (sSeq (sIf (tVal (f2 gGt (fIxB 0 0) (fC (.int 0)))) (sSeq (sAsg 4 (f2 gMod (fCl gInt (aCons (fIxB 0 0) aNil)) (fVar 1))) (sSeq (sSetB 0 0 (f2 gDiv (fIxB 0 0) (fVar 1))) (sRet (fVar 4)))) sNext) (sSeq (sAsg 2 (fC (.int 0))) (sSeq (sFor (iRange1 (aCons (f2 gAdd3 (fC (.int 1)) (f2 gDiv (f1 gBits (fVar 1)) (fC (.int 28)))) aNil)) (nN 3) (sSeq (sSetB 0 2 (f2 gAdd3 (fIxB 0 2) (fC (.int 1)))) (sAsg 2 (f2 gAdd3 (f2 gMul (fVar 2) (fC (.int 2147483587))) (fCall 3 F_mixed [] (aCons (fIxB 0 1) (aCons (fIxB 0 2) (aCons (fIxB 0 3) aNil)))))))) (sRet (f2 gMod (fCl gInt (aCons (fVar 2) aNil)) (fVar 1))))))
def pr_one_of : FS := (sRet (f2 gIx (fVar 1) (fCall 2 F_draw [] (aCons (fVar 0) (aCons (fCl gLen (aCons (fVar 1) aNil)) aNil)))))
def pr_dice : FS := (sSeq (sAsg 2 (fCl gSum (aCons (fSl (fVar 0) (oSo (fVar 1)) (oSo (f2 gAdd3 (fVar 1) (fC (.int 1))))) aNil))) (sRetO (oLst (aCons (f2 gMod (fCl gInt (aCons (fCl gMax (aCons (f2 gSub (fVar 2) (f2 gPow (fC (.int 10)) (fC (.int 18)))) (aCons (fC (.int 0)) aNil))) aNil)) (f2 gPow (f2 gPow (fC (.int 10)) (fC (.int 60))) (fC (.int 8)))) (aCons (f2 gMod (fCl gInt (aCons (fVar 2) aNil)) (fC (.int 2147483629))) (aCons (fC (.int 0)) (aCons (fVar 1) aNil)))))))
def pr_dices : FS := (sRetO (oComp (iRange1 (aCons (fCl gMax (aCons (fC (.int 1)) (aCons (fCl gMin (aCons (fVar 1) (aCons (fCl gLen (aCons (fVar 0) aNil)) aNil))) aNil))) aNil)) (gN 2) tYesD (fCall 2 F_dice [] (aCons (fVar 0) (aCons (fVar 2) aNil))) [2]))
def pr_exact (Fx : FC) : FS := (sSeq (sIf (tVal (fIsiT [.list, .tuple] (fVar 0))) (sSeq (sAsg 2 (fAnd (f2 gEq (fIsi .list (fVar 1)) (fIsi .list (fVar 0))) (f2 gEq (fIsi .tuple (fVar 1)) (fIsi .tuple (fVar 0))))) (sRet (fAnd (fVar 2) (fAnd (f2 gEq (fCl gLen (aCons (fVar 0) aNil)) (fCl gLen (aCons (fVar 1) aNil))) (fCl gAll (aCons (fFrz (oComp (iZipD (aCons (fVar 0) (aCons (fVar 1) aNil))) (gT 2 (gsCons (gN 3) (gsCons (gN 4) gsNil))) tYesD (fCall 2 Fx [] (aCons (fVar 3) (aCons (fVar 4) aNil))) [3, 4])) aNil)))))) sNext) (sSeq (sIf (tVal (fIsi .dict (fVar 0))) (sSeq (sAsg 2 (fAnd (fIsi .dict (fVar 1)) (fCall 2 Fx [] (aCons (fFrz (oCl oList (aCons (fVar 0) aNil))) (aCons (fFrz (oCl oList (aCons (fVar 1) aNil))) aNil))))) (sRet (fAnd (fVar 2) (fCl gAll (aCons (fFrz (oComp (iSeqN 0) (gN 5) tYesD (fCall 2 Fx [] (aCons (f2 gIx (fVar 0) (fVar 5)) (aCons (f2 gIx (fVar 1) (fVar 5)) aNil))) [5])) aNil))))) sNext) (sSeq (sIf (tOrD (tVal (fIsiT [.list, .tuple, .dict] (fVar 1))) (tVal (f2 gNe (f2 gIsN (fVar 0) (fC .non)) (f2 gIsN (fVar 1) (fC .non))))) (sRet (fC (.bl false))) sNext) (sSeq (sAsg 2 (fAnd (f2 gEq (fIsi .int (fVar 0)) (fIsi .int (fVar 1))) (f2 gEq (fIsi .str (fVar 0)) (fIsi .str (fVar 1))))) (sRet (fAnd (fVar 2) (fAnd (f2 gEq (fIsi .bool (fVar 0)) (fIsi .bool (fVar 1))) (f2 gEq (fVar 0) (fVar 1)))))))))
theorem mod_lt {a b : Int} (h : 0 < b) : 0 ≤ a % b ∧ a % b < b := ⟨Int.emod_nonneg _ (by omega), Int.emod_lt_of_pos _ h⟩
theorem pre_mixed : ∀ ds n Q, F_mixed ds n Q → ds.length = 3 → pr_mixed { nx := fun _ m => Q (.val .non) m, rt := Q } (startE 1 ds) n := by
  rintro ds n Q ⟨a, b, c, rfl, ha, hb, hc, h⟩ _
  simp [sSeq, pr_mixed]
  refine ⟨.right (by decide), .left (by decide), .right (by omega), .left (by decide), ?_, .right (by decide), ?_⟩
  · have := @mod_lt (a * 69069 + 104729 * b * b + 7919 * c + b) 2147483647 (by decide)
    exact .left (by omega)
  · have := @mod_lt ((((a * 69069 + 104729 * b * b + 7919 * c + b) % 2147483647 * ((a * 69069 + 104729 * b * b + 7919 * c + b) % 2147483647) + 40503) % 2147483629) * 48271) 2147483587 (by decide)
    exact h _ this.1 this.2
theorem divOk_small {j : Int} (h : 0 < j) (h2 : j < 1073741824) : DivOk j := ⟨h, by
  have h3 : j.natAbs < 2 ^ 30 := by omega
  have := (Nat.log2_lt (by omega)).mpr h3
  omega⟩
theorem bits_le (many : Int) (h : many.natAbs.log2 < 9000) : Builtin.Int.intBits many ≤ 9000 := by
  unfold Builtin.Int.intBits
  split <;> omega
theorem pre_draw : ∀ ds n Q, F_draw ds n Q → ds.length = 2 → pr_draw { nx := fun _ m => Q (.val .non) m, rt := Q } (startE 3 ds) n := by
  rintro ds n Q ⟨many, rfl, h1, h2, h3, h⟩ _
  simp [sSeq, pr_draw]
  intro d hd
  split
  · intro d1 hd1
    refine ⟨by omega, fun d2 hd2 => ⟨⟨by omega, h2⟩, ?_, ?_⟩⟩
    · exact Int.ediv_nonneg hd2 (by omega)
    · have := @mod_lt d1 many (by omega)
      exact h _ _ this.1 this.2 (by omega) (by simp only [DRW] at *; omega)
  · have hb := bits_le many h2
    refine ⟨divOk_small (by decide) (by decide), by omega, ?_⟩
    have hlen : (1 + (Builtin.Int.intBits many : Int) / 28).toNat ≤ 323 := by omega
    rw [ups_eq]
    refine forD_inv (fun pre env m => ∃ (v : Int) (x3 : Option Sl), env = [some (.val dice), some (.val (.int many)), some (.val (.int v)), x3, none] ∧ m = n + pre.length) ?_ ?_ ⟨0, none, rfl, rfl⟩
    · rintro pre a post env m next hx ⟨v, x3, rfl, rfl⟩ hn
      have hpl : pre.length < 323 := by
        have := congrArg List.length hx
        simp at this
        omega
      simp only [DRW, LIM] at h3
      simp [sSeq, DiceAt]
      intro d2 hd2 hd2'
      refine ⟨⟨by omega, by omega⟩, .right (by decide), ?_⟩
      intro d3 hd3 hd3' d4 hd4 hd4' d5 hd5 hd5'
      refine ⟨d3, d4, d5, rfl, ⟨by omega, by omega⟩, ⟨by omega, by omega⟩, ⟨hd5, hd5'⟩, fun r hr hr' => ?_⟩
      refine hn _ _ ⟨_, _, rfl, by simp; omega⟩
    · rintro env m ⟨v, x3, rfl, rfl⟩
      have := @mod_lt v many (by omega)
      simp
      refine ⟨by omega, h _ _ this.1 this.2 (by omega) (by simp only [DRW]; omega)⟩
theorem atI_ok {α : Type} {xs : List α} {r : Int} (h : 0 ≤ r) (h2 : r < xs.length) : ∃ x, atI xs r = some x ∧ x ∈ xs := by
  refine ⟨xs[r.toNat]'(by omega), ?_, List.getElem_mem _⟩
  unfold atI ixN
  rw [if_pos h, if_pos (by omega)]
  simp
theorem pre_one_of : ∀ ds n Q, F_one_of ds n Q → ds.length = 2 → pr_one_of { nx := fun _ m => Q (.val .non) m, rt := Q } (startE 0 ds) n := by
  rintro ds n Q ⟨xs, rfl, h0, hz, h1, h⟩ _
  simp [sSeq, pr_one_of]
  have hl : 0 < xs.length := List.length_pos_iff.mpr h0
  refine ⟨xs.length, rfl, by omega, ?_, h1, fun r m hr hr' hm hm' => ?_⟩
  · have h3 : ((xs.length : Int)).natAbs < 2 ^ 30 := by omega
    have := (Nat.log2_lt (by omega)).mpr h3
    omega
  · obtain ⟨x, hx, hx'⟩ := atI_ok hr hr'
    exact ⟨x, hx, h x m hx' hm hm'⟩
theorem pre_dice0 : ∀ ds n Q, F_dice0 ds n Q → ds.length = 2 → pr_dice { nx := fun _ m => Q (.val .non) m, rt := Q } (startE 1 ds) n := by
  rintro ds n Q ⟨ns, i, rfl, h0, h1, h⟩ _
  simp [sSeq, pr_dice]
  refine ⟨_, rfl, ⟨by decide, by decide⟩, ⟨by decide, by decide +kernel⟩, ⟨by decide, by decide +kernel⟩, by decide, h _ _ (Int.emod_nonneg _ (by decide)) ?_⟩
  exact mod_lt (by decide)
theorem goD_const {α : Type} {c : α → D} {tg : FG} {tt : FT} {te : FE} {env : DEnv} (d : D) {xs : List α} {n : Nat} {Q : List D → Nat → Prop} (H : ∀ a ∈ xs, ∀ m K, K (some d) m → stepD tg tt te env (c a) m K) (h : Q (List.replicate xs.length d) n) : goD tg tt te env (xs.map c) n Q := by
  refine goD_map (fun _ => d) H ?_
  rw [show xs.map (fun _ => d) = List.replicate xs.length d from List.map_const' ..]
  exact h
theorem pre_dices : ∀ ds n Q, F_dices ds n Q → ds.length = 2 → pr_dices { nx := fun _ m => Q (.val .non) m, rt := Q } (startE 1 ds) n := by
  rintro ds n Q ⟨ns, few, rfl, hl, h0, h1, h⟩ _
  simp [sSeq, pr_dices]
  refine ⟨⟨by omega, by omega⟩, ?_⟩
  rw [ups_eq]
  refine goD_const dice (fun a ha m K hK => ?_) ?_
  · have := List.mem_range.mp ha
    simp [stepD]
    exact ⟨ns, a, rfl, by omega, by omega, hK⟩
  · rw [List.length_range]
    exact h _ (by omega) (by omega)
theorem plain_lst {k : Nat} {xs : List D} (h : plain k (.lst xs) = true) : ∃ j, k = j + 1 ∧ plains j xs = true := by
  cases k with
  | zero => simp at h
  | succ j => exact ⟨j, rfl, by simpa using h⟩
theorem plain_tup {k : Nat} {xs : List D} (h : plain k (.tup xs) = true) : ∃ j, k = j + 1 ∧ plains j xs = true := by
  cases k with
  | zero => simp at h
  | succ j => exact ⟨j, rfl, by simpa using h⟩
theorem plains_mem {k : Nat} {x : D} : ∀ {xs : List D}, plains k xs = true → x ∈ xs → plain k x = true
  | [], _, h => nomatch h
  | y :: ys, h, hx => by
    simp only [plains, Bool.and_eq_true] at h
    rcases List.mem_cons.mp hx with rfl | hx
    · exact h.1
    · exact plains_mem h.2 hx
theorem zipD_eq : ∀ xs ys : List D, zipD xs ys = (xs.zip ys).map fun p => .tup [p.1, p.2]
  | [], _ => by simp [zipD]
  | _ :: _, [] => by simp [zipD]
  | x :: xs, y :: ys => by simp [zipD, zipD_eq xs ys]
theorem zip_all : ∀ xs ys : List D, xs.length = ys.length → ((xs.zip ys).map fun p => decide (p.1 = p.2)).all id = decide (xs = ys)
  | [], [], _ => rfl
  | [], _ :: _, h => by simp at h
  | _ :: _, [], h => by simp at h
  | x :: xs, y :: ys, h => by
    have ih := zip_all xs ys (by simpa using h)
    simp only [List.zip_cons_cons, List.map_cons, List.all_cons, ih, id]
    rw [← Bool.decide_and]
    simp
/-- the kinds of plain data -/
theorem plain_cases {k : Nat} {x : D} (h : plain k x = true) : x = .non ∨ (∃ b, x = .bl b) ∨ (∃ i, x = .int i) ∨ (∃ s, x = .str s) ∨ (∃ xs, x = .lst xs) ∨ ∃ xs, x = .tup xs := by
  cases x with
  | non => exact .inl rfl
  | bl b => exact .inr (.inl ⟨b, rfl⟩)
  | int i => exact .inr (.inr (.inl ⟨i, rfl⟩))
  | str s => exact .inr (.inr (.inr (.inl ⟨s, rfl⟩)))
  | lst xs => exact .inr (.inr (.inr (.inr (.inl ⟨xs, rfl⟩))))
  | tup xs => exact .inr (.inr (.inr (.inr (.inr ⟨xs, rfl⟩))))
  | _ => cases k <;> simp at h
theorem exact_all {Fx : FC} {k n : Nat} {xs ys : List D} {env : DEnv} {Q : List D → Nat → Prop} (hF : Fx = F_exact k) (hl : 5 ≤ env.length) (hx : plains k xs = true) (hy : plains k ys = true) (h : xs.length = ys.length) (hQ : Q (((xs.zip ys).map fun p => decide (p.1 = p.2)).map D.bl) n) :
    goD (gT 2 (gsCons (gN 3) (gsCons (gN 4) gsNil))) tYesD (fCall 2 Fx [] (aCons (fVar 3) (aCons (fVar 4) aNil))) env (zipD xs ys) n Q := by
  subst hF
  rw [zipD_eq]
  refine goD_map (fun p => .bl (decide (p.1 = p.2))) (fun p hp m K hK => ?_) (by rw [List.map_map] at hQ; exact hQ)
  have h1 := List.of_mem_zip hp
  match env, hl with
  | a :: b :: c :: d :: e :: r, _ =>
    simp [stepD]
    exact ⟨_, _, rfl, plains_mem hx h1.1, plains_mem hy h1.2, hK⟩
theorem pre_exact_lst (k : Nat) (Fx : FC) (hF : ∀ j, k = j + 1 → Fx = F_exact j) (xs : List D) (y : D) (n : Nat) (Q : Sl → Nat → Prop) (hx : plain k (.lst xs) = true) (hy : plain k y = true) (h : Q (.val (.bl (decide (D.lst xs = y)))) n) : pr_exact Fx { nx := fun _ m => Q (.val .non) m, rt := Q } (startE 4 [.lst xs, y]) n := by
  obtain ⟨j, rfl, hxs⟩ := plain_lst hx
  rcases plain_cases hy with rfl | ⟨b, rfl⟩ | ⟨b, rfl⟩ | ⟨b, rfl⟩ | ⟨ys, rfl⟩ | ⟨b, rfl⟩
  case inr.inr.inr.inr.inl =>
    obtain ⟨j', e, hys⟩ := plain_lst hy
    cases e
    simp [sSeq, pr_exact]
    split
    · rename_i hl
      refine exact_all (hF j rfl) (by simp) hxs hys (by omega) ⟨_, rfl, ?_⟩
      rw [zip_all xs ys (by omega)]
      have e : decide (D.lst xs = D.lst ys) = decide (xs = ys) := by simp
      rw [← e]; exact h
    · rename_i hl
      have e : decide (D.lst xs = D.lst ys) = false := by
        simp
        intro e
        subst e
        exact hl rfl
      rw [e] at h; exact h
  all_goals (simp [sSeq, pr_exact]; simpa using h)
theorem pre_exact_tup (k : Nat) (Fx : FC) (hF : ∀ j, k = j + 1 → Fx = F_exact j) (xs : List D) (y : D) (n : Nat) (Q : Sl → Nat → Prop) (hx : plain k (.tup xs) = true) (hy : plain k y = true) (h : Q (.val (.bl (decide (D.tup xs = y)))) n) : pr_exact Fx { nx := fun _ m => Q (.val .non) m, rt := Q } (startE 4 [.tup xs, y]) n := by
  obtain ⟨j, rfl, hxs⟩ := plain_tup hx
  rcases plain_cases hy with rfl | ⟨b, rfl⟩ | ⟨b, rfl⟩ | ⟨b, rfl⟩ | ⟨b, rfl⟩ | ⟨ys, rfl⟩
  case inr.inr.inr.inr.inr =>
    obtain ⟨j', e, hys⟩ := plain_tup hy
    cases e
    simp [sSeq, pr_exact]
    split
    · rename_i hl
      refine exact_all (hF j rfl) (by simp) hxs hys (by omega) ⟨_, rfl, ?_⟩
      rw [zip_all xs ys (by omega)]
      have e : decide (D.tup xs = D.tup ys) = decide (xs = ys) := by simp
      rw [← e]; exact h
    · rename_i hl
      have e : decide (D.tup xs = D.tup ys) = false := by
        simp
        intro e
        subst e
        exact hl rfl
      rw [e] at h; exact h
  all_goals (simp [sSeq, pr_exact]; simpa using h)
theorem pre_exact_atom (k : Nat) (Fx : FC) (x y : D) (n : Nat) (Q : Sl → Nat → Prop) (hx : flatD x = true) (hy : plain k y = true) (h : Q (.val (.bl (decide (x = y)))) n) : pr_exact Fx { nx := fun _ m => Q (.val .non) m, rt := Q } (startE 4 [x, y]) n := by
  cases x with
  | non => 
    rcases plain_cases hy with rfl | ⟨b, rfl⟩ | ⟨b, rfl⟩ | ⟨b, rfl⟩ | ⟨b, rfl⟩ | ⟨ys, rfl⟩
    all_goals (simp [sSeq, pr_exact]; first | simpa using h | (rw [Bool.beq_eq_decide_eq]; simpa using h))
  | bl a => 
    rcases plain_cases hy with rfl | ⟨b, rfl⟩ | ⟨b, rfl⟩ | ⟨b, rfl⟩ | ⟨b, rfl⟩ | ⟨ys, rfl⟩
    all_goals (simp [sSeq, pr_exact]; first | simpa using h | (rw [Bool.beq_eq_decide_eq]; simpa using h))
  | int a => 
    rcases plain_cases hy with rfl | ⟨b, rfl⟩ | ⟨b, rfl⟩ | ⟨b, rfl⟩ | ⟨b, rfl⟩ | ⟨ys, rfl⟩
    all_goals (simp [sSeq, pr_exact]; first | simpa using h | (rw [Bool.beq_eq_decide_eq]; simpa using h))
  | str a => 
    rcases plain_cases hy with rfl | ⟨b, rfl⟩ | ⟨b, rfl⟩ | ⟨b, rfl⟩ | ⟨b, rfl⟩ | ⟨ys, rfl⟩
    all_goals (simp [sSeq, pr_exact]; first | simpa using h | (rw [Bool.beq_eq_decide_eq]; simpa using h))
  | _ => simp [flatD] at hx
theorem pre_exactF (k : Nat) (Fx : FC) (hF : ∀ j, k = j + 1 → Fx = F_exact j) : ∀ ds n Q, F_exact k ds n Q → ds.length = 2 → pr_exact Fx { nx := fun _ m => Q (.val .non) m, rt := Q } (startE 4 ds) n := by
  rintro ds n Q ⟨x, y, rfl, hx, hy, h⟩ _
  rcases plain_cases hx with rfl | ⟨b, rfl⟩ | ⟨b, rfl⟩ | ⟨b, rfl⟩ | ⟨b, rfl⟩ | ⟨ys, rfl⟩
  · exact pre_exact_atom k Fx _ _ n Q rfl hy h
  · exact pre_exact_atom k Fx _ _ n Q rfl hy h
  · exact pre_exact_atom k Fx _ _ n Q rfl hy h
  · exact pre_exact_atom k Fx _ _ n Q rfl hy h
  · exact pre_exact_lst k Fx hF _ _ n Q hx hy h
  · exact pre_exact_tup k Fx hF _ _ n Q hx hy h
end DL
namespace DL
open PySem L2
/-- one statement at a time, what follows left closed -/
theorem sSeq_of {a b : FS} {E : DEnds} {env : SEnv} {n : Nat} (h : ∀ next : SEnv → Nat → Prop, (∀ e m, b E e m → next e m) → a { E with nx := next } env n) : sSeq a b E env n := h _ fun _ _ h => h
theorem atI_nat' {α : Type} {xs : List α} {i : Nat} {x : α} (h : xs[i]? = some x) : atI xs (i : Int) = some x := by
  have hi := (List.getElem?_eq_some_iff.mp h).1
  unfold atI ixN
  rw [if_pos (by omega), if_pos (by omega)]
  simpa using h
theorem range_pre {n : Nat} {pre post : List Nat} {a : Nat} (hx : List.range n = pre ++ a :: post) : pre.length < n ∧ a = pre.length := by
  have hlen := congrArg List.length hx
  have hpl : pre.length < n := by simp at hlen; omega
  refine ⟨hpl, ?_⟩
  have h2 := congrArg (fun l : List Nat => l[pre.length]?) hx
  simp only [List.getElem?_append_right (Nat.le_refl _), Nat.sub_self, List.getElem?_cons_zero] at h2
  rw [List.getElem?_range hpl] at h2
  exact (Option.some.inj h2).symm
end DL
namespace DL
open PySem PySem.Spec PyProof.Rows L2
def kitC (K : PySem.W.Frag) (cls : Nat → Option (Addr × List Str)) : Kit where
  K := K
  cls := cls
  J := fun t ps P o => t = 0 ∧ ps = [] ∧ DiceJ P o
  mono := fun t ps P P' o _ _ hn h => ⟨h.1, h.2.1, h.2.2.mono hn⟩
  jk := fun t ps P o h => by
    obtain ⟨_, _, _, _, _, _, rfl, _⟩ := h
    rfl
def kit0 (K : PySem.W.Frag) : Kit := kitC K fun _ => none
theorem kitC_dice {K : PySem.W.Frag} {cls : Nat → Option (Addr × List Str)} : HasDice (kitC K cls) := fun P o => ⟨fun h => h.2.2, fun h => ⟨rfl, rfl, h⟩⟩
theorem kit0_dice {K : PySem.W.Frag} : HasDice (kit0 K) := kitC_dice
section
variable {κ : Kit} {P : Program} {w : World} {K : PySem.W.Frag} {mg : Str → Option Value} {base : Heap} {f : Addr} {fd : FuncData} {ps : List Str} {k j : Nat}
theorem fn_none : FnOk P w K mg base CX0 k f fd ps (spD κ j F_none) := by
  have no : ∀ vs H Q E, spD κ j F_none vs H Q E → False := fun vs H Q E h => by
    obtain ⟨_, _, _, _, _, _, _, hf, _⟩ := h
    exact hf
  exact ⟨fun vs H Q E h => (no _ _ _ _ h).elim, fun A outer s H args us vs Q E _ _ _ _ h => (no _ _ _ _ h).elim⟩
theorem dice_step : ∀ ds n Q, F_dice ds n Q → F_dice0 ds n fun s m => ∃ d0 d1 d2 d3 : Int, s = .own [.int d0, .int d1, .int d2, .int d3] ∧ DiceAt 0 d0 m ∧ DiceAt 1 d1 m ∧ DiceAt 2 d2 m ∧ DiceAt 3 d3 m ∧ Q (.val dice) m := by
  rintro ds n Q ⟨ns, i, rfl, h0, h1, h⟩
  exact ⟨ns, i, rfl, h0, h1, fun d0 d1 a0 a1 => ⟨d0, d1, 0, i, rfl, a0, a1, ⟨Int.le_refl _, by omega⟩, ⟨h0, by omega⟩, h⟩⟩
/-- the contract of a law: over the script it answers True -/
def F_law : FC := fun ds n Q => ∃ ns : List Int, ds = [.scr ns] ∧ ns.length ≤ 63 ∧ n = 0 ∧ ∀ m, Q (.val (.bl true)) m
theorem law_sp {κ : Kit} {H : Hp} {a : Addr} {ns : List Int} (hl : ns.length ≤ 63) (hS : SqL κ.K H a (ns.map V.int)) (hx : ∀ a, κ.fx a = none := by intro _; rfl) : spD κ 1 F_law [.ref a] H (fun v _ => v = .bl true) fun _ _ _ => False := by
  refine ⟨rfl, ⟨fun _ => none, fun _ => none, 0⟩, H, [.scr ns], fun s _ => s = .val (.bl true), ⟨fun _ _ h => (nomatch h), fun _ _ h => .inl h, fun _ _ h => (nomatch h), fun a t h => by rw [hx a] at h; cases h⟩, .cons (.scr hS (Nat.le_trans hl (by decide))) .nil, ⟨ns, rfl, hl, rfl, fun _ => rfl⟩, ?_⟩
  intro v s P' G' H' gr g r e
  subst e
  cases r
  rfl
end
end DL
namespace DL
open PySem L2
/-- is_whole(value), slots 0 value -/
def cm_is_whole : FS := (sRet (fAnd (fIsi .int (fVar 0)) (fNot (fIsi .bool (fVar 0)))))
/-- is_count(value, most), slots 0 value 1 most -/
def cm_is_count (F_is_whole : FC) : FS := (sRet (fAnd (fCall 1 F_is_whole [] (aCons (fVar 0) aNil)) (fAnd (f2 gGe (fVar 0) (fC (.int 0))) (fOr (f2 gIsN (fVar 1) (fC .non)) (f2 gLe (fVar 0) (fVar 1))))))
/-- is_text(value), slots 0 value 1 sign -/
def cm_is_text : FS := (sRet (fAnd (fIsi .str (fVar 0)) (fCl gAll (aCons (fFrz (oComp (iSeqN 0) (gN 1) tYesD (fChain gLe gLe (fC (.str [97])) (fVar 1) (fC (.str [122]))) [1])) aNil))))
/-- check_text(value), slots 0 value -/
def cm_check_text (F_is_text : FC) : FS := (sIf (tNotD (tTru (fCall 1 F_is_text [] (aCons (fVar 0) aNil)))) sNever sNext)
/-- _law_letters(dice, many), slots 0 dice 1 many 2 found 3 spin 4 late 5 sign -/
def cm__law_letters (F__law_draw : FC) : FS := (sSeq (sAsgO 2 (oLst aNil)) (sSeq (sFor (iRange1 (aCons (fVar 1) aNil)) (nN 3) (sSeq (sAsg 4 (f2 gIx (fC (.str [97, 98, 99, 100, 101, 102, 103, 104, 105, 106, 107, 108, 109, 110, 111, 112, 113, 114, 115, 116, 117, 118, 119, 120, 121, 122])) (fCall 2 F__law_draw [] (aCons (fVar 0) (aCons (fC (.int 26)) aNil))))) (sAppV 2 (fIf (tVal (f2 gNotIn (fVar 4) (fVar 2))) (fVar 4) (f2 gIx (fFrz (oComp (iSeq (fFrz (oCl oList (aCons (fC (.str [97, 98, 99, 100, 101, 102, 103, 104, 105, 106, 107, 108, 109, 110, 111, 112, 113, 114, 115, 116, 117, 118, 119, 120, 121, 122])) aNil)))) (gN 5) (tVal (f2 gNotIn (fVar 5) (fVar 2))) (fVar 5) [5])) (fC (.int 0))))))) (sRetV (fM1 gJoin (fC (.str [])) (fFrz (oCl oSorted (aCons (fVar 2) aNil)))))))
/-- is_word(value), slots 0 value -/
def cm_is_word (F_is_text : FC) : FS := (sRet (fAnd (fCall 1 F_is_text [] (aCons (fVar 0) aNil)) (f2 gNe (fVar 0) (fC (.str [])))))
/-- check_from(value, least), slots 0 value 1 least -/
def cm_check_from (F_is_count : FC) : FS := (sIf (tOrD (tNotD (tTru (fCall 2 F_is_count [.non] (aCons (fVar 0) aNil)))) (tVal (f2 gLt (fVar 0) (fVar 1)))) sNever sNext)
/-- has(text, period), slots 0 text 1 period -/
def cm_has : FS := (sRet (fAnd (f2 gLt (fVar 1) (fCl gLen (aCons (fVar 0) aNil))) (f2 gEq (fSl (fVar 0) (oSo (fVar 1)) oNo) (fSl (fVar 0) oNo (oSo (f2 gSub (fCl gLen (aCons (fVar 0) aNil)) (fVar 1)))))))
/-- _law_ground(dice, most), slots 0 dice 1 most 2 some 3 many 4 signs 5 gap 6 at -/
def cm__law_ground (F__law_draw : FC) (F__law_letters : FC) (F__law_one_of : FC) : FS := (sSeq (sAsg 2 (fFrz (oLst (aCons (fTup (aCons (fC (.int 2)) (aCons (fC (.int 2)) aNil))) (aCons (fTup (aCons (fC (.int 3)) (aCons (fC (.int 2)) aNil))) (aCons (fTup (aCons (fC (.int 2)) (aCons (fC (.int 3)) aNil))) (aCons (fTup (aCons (fC (.int 4)) (aCons (fC (.int 2)) aNil))) (aCons (fTup (aCons (fC (.int 5)) (aCons (fC (.int 2)) aNil))) (aCons (fTup (aCons (fC (.int 2)) (aCons (fC (.int 4)) aNil))) (aCons (fTup (aCons (fC (.int 3)) (aCons (fC (.int 3)) aNil))) aNil)))))))))) (sSeq (sAsg 3 (fFrz (oLst (aCons (fC (.int 2)) (aCons (fC (.int 6)) (aCons (fC (.int 12)) (aCons (fC (.int 12)) (aCons (fC (.int 20)) (aCons (fC (.int 54)) (aCons (fC (.int 72)) aNil)))))))))) (sSeq (sUnp (nT 2 (nsCons (nN 4) (nsCons (nN 5) nsNil))) (fCall 2 F__law_one_of [] (aCons (fVar 0) (aCons (fFrz (oComp (iRange1 (aCons (fC (.int 7)) aNil)) (gN 6) (tVal (f2 gLe (f2 gIx (fVar 3) (fVar 6)) (fVar 1))) (f2 gIx (fVar 2) (fVar 6)) [6])) aNil)))) (sRet (fTup (aCons (fIf (tVal (f2 gEq (fCall 2 F__law_draw [] (aCons (fVar 0) (aCons (fC (.int 2)) aNil))) (fC (.int 0)))) (fCall 2 F__law_letters [] (aCons (fVar 0) (aCons (fVar 4) aNil))) (fSl (fC (.str [97, 98, 99, 100, 101, 102, 103, 104])) oNo (oSo (fVar 4)))) (aCons (fVar 5) aNil)))))))
/-- _law_text(dice, ground, most), slots 0 dice 1 ground 2 most 3 signs 4 found 5 size 6 way 7 word 8 spin -/
def cm__law_text (F__law_draw : FC) (F__law_one_of : FC) : FS := (sSeq (sPar [3, 4] (xCons (xV (fFrz (oCl oList (aCons (f2 gIx (fVar 1) (fC (.int 0))) aNil)))) (xCons (xV (fC (.str []))) xNil))) (sSeq (sAsg 5 (fCall 2 F__law_draw [] (aCons (fVar 0) (aCons (f2 gAdd3 (fVar 2) (fC (.int 1))) aNil)))) (sSeq (sWhile (tVal (f2 gLt (fCl gLen (aCons (fVar 4) aNil)) (fVar 5))) (sSeq (sAsg 6 (fCall 2 F__law_draw [] (aCons (fVar 0) (aCons (fC (.int 4)) aNil)))) (sIf (tVal (f2 gEq (fVar 6) (fC (.int 0)))) (sSeq (sAsg 7 (fM1 gJoin (fC (.str [])) (fFrz (oComp (iRange1 (aCons (f2 gAdd3 (fC (.int 1)) (fCall 2 F__law_draw [] (aCons (fVar 0) (aCons (f2 gIx (fVar 1) (fC (.int 1))) aNil)))) aNil)) (gN 8) tYesD (fCall 2 F__law_one_of [] (aCons (fVar 0) (aCons (fVar 3) aNil))) [8])))) (sAsg 4 (f2 gAdd3 (fVar 4) (f2 gMul (fVar 7) (f2 gAdd3 (fC (.int 1)) (fCall 2 F__law_draw [] (aCons (fVar 0) (aCons (fC (.int 4)) aNil)))))))) (sIf (tVal (f2 gEq (fVar 6) (fC (.int 1)))) (sAsg 4 (f2 gAdd3 (fVar 4) (f2 gMul (f2 gIx (fVar 3) (fC (.int 0))) (f2 gAdd3 (fC (.int 1)) (fCall 2 F__law_draw [] (aCons (fVar 0) (aCons (fC (.int 3)) aNil))))))) (sAsg 4 (f2 gAdd3 (fVar 4) (fM1 gJoin (fC (.str [])) (fFrz (oComp (iRange1 (aCons (f2 gAdd3 (fC (.int 1)) (fCall 2 F__law_draw [] (aCons (fVar 0) (aCons (fC (.int 4)) aNil)))) aNil)) (gN 8) tYesD (fCall 2 F__law_one_of [] (aCons (fVar 0) (aCons (fVar 3) aNil))) [8]))))))))) (sRet (fSl (fVar 4) oNo (oSo (fVar 5)))))))
end DL
namespace DL
open PySem L2
def isWh (d : D) : Bool := isiD .int d && !isiD .bool d
@[simp] theorem isWh_int (i : Int) : isWh (.int i) = true := rfl
def isCnt (d e : D) : Bool := isWh d && match d, e with
  | .int i, .int j => decide (0 ≤ i) && decide (i ≤ j)
  | .int i, _ => decide (0 ≤ i)
  | _, _ => false
@[simp] theorem isCnt_non (i : Int) : isCnt (.int i) .non = decide (0 ≤ i) := rfl
@[simp] theorem isCnt_int (i j : Int) : isCnt (.int i) (.int j) = (decide (0 ≤ i) && decide (i ≤ j)) := rfl
def low (s : List Nat) : Bool := s.all fun c => decide (97 ≤ c) && decide (c ≤ 122)
def isTx : D → Bool
  | .str s => low s
  | _ => false
@[simp] theorem isTx_str (s : List Nat) : isTx (.str s) = low s := rfl
def isWd : D → Bool
  | .str s => low s && !s.isEmpty
  | _ => false
@[simp] theorem isWd_str (s : List Nat) : isWd (.str s) = (low s && !s.isEmpty) := rfl
def F_is_whole : FC := fun ds n Q => ∃ d, ds = [d] ∧ hasTy d = true ∧ Q (.val (.bl (isWh d))) n
def F_is_count : FC := fun ds n Q => ∃ d e, ds = [d, e] ∧ hasTy d = true ∧ (e = .non ∨ ∃ j, e = .int j) ∧ Q (.val (.bl (isCnt d e))) n
def F_is_text : FC := fun ds n Q => ∃ d, ds = [d] ∧ hasTy d = true ∧ Q (.val (.bl (isTx d))) n
def F_is_word : FC := fun ds n Q => ∃ d, ds = [d] ∧ plain 64 d = true ∧ Q (.val (.bl (isWd d))) n
def F_check_text : FC := fun ds n Q => ∃ s, ds = [.str s] ∧ low s = true ∧ Q (.val .non) n
def F_check_from : FC := fun ds n Q => ∃ i l : Int, ds = [.int i, .int l] ∧ 0 ≤ i ∧ l ≤ i ∧ Q (.val .non) n
theorem law_is_whole : ∀ ds n Q, F_is_whole ds n Q → ds.length = 1 → cm_is_whole { nx := fun _ m => Q (.val .non) m, rt := Q } (startE 0 ds) n := by
  rintro ds n Q ⟨d, rfl, h1, h⟩ _
  cases d <;> simp [cm_is_whole, isWh] at h1 h ⊢ <;> exact h
theorem isWh_iff {d : D} (h : isWh d = true) : ∃ i, d = .int i := by
  cases d <;> simp [isWh] at h
  exact ⟨_, rfl⟩
theorem law_is_count : ∀ ds n Q, F_is_count ds n Q → ds.length = 2 → cm_is_count F_is_whole { nx := fun _ m => Q (.val .non) m, rt := Q } (startE 0 ds) n := by
  rintro ds n Q ⟨d, e, rfl, h1, h2, h⟩ _
  by_cases hw : isWh d = true
  · obtain ⟨i, rfl⟩ := isWh_iff hw
    simp [cm_is_count]
    refine ⟨_, rfl, rfl, ?_⟩
    rcases h2 with rfl | ⟨j, rfl⟩
    · by_cases hi : 0 ≤ i <;> simp [hi] at h ⊢ <;> exact h
    · by_cases hi : 0 ≤ i <;> simp [hi] at h ⊢ <;> exact h
  · simp at hw
    have : isCnt d e = false := by
      unfold isCnt
      rw [hw]; rfl
    rw [this] at h
    simp [cm_is_count]
    refine ⟨d, rfl, h1, ?_⟩
    simp [hw]
    exact h
@[simp] theorem lt1 (a b : Nat) : ([a] < [b]) = (a < b) := by simp [List.cons_lt_cons_iff]
@[simp] theorem le1 (a b : Nat) : ([a] ≤ [b]) = (a ≤ b) := by
  show (¬ [b] < [a]) = _
  simp
theorem law_is_text : ∀ ds n Q, F_is_text ds n Q → ds.length = 1 → cm_is_text { nx := fun _ m => Q (.val .non) m, rt := Q } (startE 1 ds) n := by
  rintro ds n Q ⟨d, rfl, h1, h⟩ _
  cases d with
  | str s =>
    simp [cm_is_text]
    refine goD_map (fun c => .bl (decide (97 ≤ c) && decide (c ≤ 122))) (fun c hc m K hK => ?_) ?_
    · simp [stepD]
      by_cases g1 : 97 ≤ c
      · rw [if_pos g1]
        by_cases g2 : c ≤ 122
        · have : ¬ 122 < c := by omega
          simpa [g1, g2, this] using hK
        · have : 122 < c := by omega
          simpa [g1, g2, this] using hK
      · rw [if_neg g1]
        simpa [g1] using hK
    · refine ⟨s.map fun c => decide (97 ≤ c) && decide (c ≤ 122), by rw [List.map_map]; rfl, ?_⟩
      simpa [isTx, low, List.all_map, Function.comp_def] using h
  | _ => simp [cm_is_text] at h1 ⊢ <;> simpa [isTx] using h
theorem law_is_word : ∀ ds n Q, F_is_word ds n Q → ds.length = 1 → cm_is_word F_is_text { nx := fun _ m => Q (.val .non) m, rt := Q } (startE 0 ds) n := by
  rintro ds n Q ⟨d, rfl, h1, h⟩ _
  simp [cm_is_word]
  refine ⟨d, rfl, by cases d <;> simp at h1 ⊢, ?_⟩
  cases d with
  | str s =>
    by_cases hl : low s = true
    · simp [hl]
      cases s with
      | nil => simpa [hl] using h
      | cons => simpa [hl] using h
    · simp [hl] at h ⊢
      exact h
  | _ => simp [isTx] ; simpa [isWd] using h
theorem law_check_text : ∀ ds n Q, F_check_text ds n Q → ds.length = 1 → cm_check_text F_is_text { nx := fun _ m => Q (.val .non) m, rt := Q } (startE 0 ds) n := by
  rintro ds n Q ⟨s, rfl, h1, h⟩ _
  simp [cm_check_text]
  exact ⟨_, rfl, rfl, by simp [h1, h]⟩
theorem law_check_from : ∀ ds n Q, F_check_from ds n Q → ds.length = 2 → cm_check_from F_is_count { nx := fun _ m => Q (.val .non) m, rt := Q } (startE 0 ds) n := by
  rintro ds n Q ⟨i, l, rfl, h1, h2, h⟩ _
  simp [cm_check_from]
  refine ⟨_, _, rfl, rfl, .inl rfl, ?_⟩
  simp [h1]
  exact ⟨h2, h⟩
end DL
namespace DL
open PySem L2 PyProof.Rows
def ABC : List Nat := [97, 98, 99, 100, 101, 102, 103, 104, 105, 106, 107, 108, 109, 110, 111, 112, 113, 114, 115, 116, 117, 118, 119, 120, 121, 122]
theorem abc_low : ∀ c ∈ ABC, 97 ≤ c ∧ c ≤ 122 := by decide
theorem abc_len : ABC.length = 26 := rfl
theorem abc_nodup : ABC.Nodup := by decide
theorem low_iff {s : List Nat} : low s = true ↔ ∀ c ∈ s, 97 ≤ c ∧ c ≤ 122 := by simp [low]
theorem nodup_le : ∀ {xs ys : List Nat}, xs.Nodup → (∀ x ∈ xs, x ∈ ys) → xs.length ≤ ys.length
  | [], _, _, _ => Nat.zero_le _
  | x :: xs, ys, h, hs => by
    have h1 := List.nodup_cons.mp h
    have hx := hs x (List.mem_cons_self ..)
    have h2 := nodup_le (ys := ys.erase x) h1.2 (fun z hz => by
      have hne : z ≠ x := fun e => by subst e; exact h1.1 hz
      exact (List.mem_erase_of_ne hne).mpr (hs z (List.mem_cons_of_mem _ hz)))
    rw [List.length_erase_of_mem hx] at h2
    have := List.length_pos_of_mem hx
    rw [List.length_cons]
    omega
theorem lt_cps (a b : Nat) : Spec.ltCps [a] [b] = decide (a < b) := by
  simp [Spec.ltCps]
theorem rising_lt : ∀ (cs : List Nat) (p : Nat), risingS ⟨[p].toArray⟩ (cs.map fun c => (⟨[c].toArray⟩ : Str)) = true → (p :: cs).Pairwise (· ≤ ·)
  | [], p, _ => by simp
  | c :: cs, p, h => by
    rw [List.map_cons] at h
    unfold risingS at h
    simp only [Bool.and_eq_true, Bool.not_eq_true'] at h
    have h1 : ¬ c < p := by
      have := h.1
      rw [show Spec.ltCps (⟨[c].toArray⟩ : Str).cps.toList (⟨[p].toArray⟩ : Str).cps.toList = decide (c < p) from lt_cps c p] at this
      simpa using this
    have ih := rising_lt cs c h.2
    refine List.pairwise_cons.mpr ⟨fun z hz => ?_, ih⟩
    rcases List.mem_cons.mp hz with rfl | hz
    · omega
    · have := (List.pairwise_cons.mp ih).1 z hz
      omega
theorem sorted_lt {cs : List Nat} (h : sortedS (cs.map fun c => (⟨[c].toArray⟩ : Str)) = true) (hn : cs.Nodup) : cs.Pairwise (· < ·) := by
  have h1 : cs.Pairwise (· ≤ ·) := by
    cases cs with
    | nil => exact .nil
    | cons c cs => exact rising_lt cs c h
  have := h1.and hn
  exact this.imp fun ⟨a, b⟩ => by omega
theorem joinL_nil : ∀ ss : List (List Nat), joinL [] ss = ss.flatten
  | [] => rfl
  | [s] => by simp [joinL]
  | s :: t :: r => by
    have := joinL_nil (t :: r)
    simp [joinL, this]
theorem flat_ones (cs : List Nat) : (cs.map fun c => [c]).flatten = cs := by
  induction cs with
  | nil => rfl
  | cons c cs ih => rw [List.map_cons, List.flatten_cons, ih]; rfl
theorem sum_ones (ds : List Nat) : ((ds.map fun c => [c]).map List.length).sum = ds.length := by
  induction ds with
  | nil => rfl
  | cons d ds ih => rw [List.map_cons, List.map_cons, List.sum_cons, ih, List.length_cons, List.length_cons, List.length_nil]; omega
theorem perm_ones {ts : List (List Nat)} {cs : List Nat} (h : ts.Perm (cs.map fun c => [c])) : ∃ ds : List Nat, ts = ds.map (fun c => [c]) ∧ ds.Perm cs := by
  refine ⟨ts.flatten, ?_, ?_⟩
  · have : ∀ t ∈ ts, ∃ c, t = [c] := fun t ht => by
      obtain ⟨c, _, e⟩ := List.mem_map.mp (h.mem_iff.mp ht)
      exact ⟨c, e.symm⟩
    clear h
    induction ts with
    | nil => rfl
    | cons t ts ih =>
      obtain ⟨c, rfl⟩ := this t (List.mem_cons_self ..)
      have ih := ih fun t ht => this t (List.mem_cons_of_mem _ ht)
      rw [List.flatten_cons, List.map_append, ← ih]; rfl
  · have := h.flatten
    rw [flat_ones] at this
    exact this
/-- join over single signs -/
theorem join_ones {cs : List Nat} {n : Nat} {Q : D → Nat → Prop} (hl : cs.length ≤ 16777216) (h : Q (.str cs) n) : gJoin (.str []) (.lst ((cs.map fun c => [c]).map D.str)) n Q := by
  refine ⟨[], _, rfl, .inl rfl, ?_, by rw [joinL_nil, flat_ones]; exact h⟩
  rw [sum_ones]
  simp
  exact hl
/-- letters: so many, in order, no two alike -/
structure Letters (many : Nat) (s : List Nat) : Prop where
  len : s.length = many
  low : low s = true
  inc : s.Pairwise (· < ·)
def F__law_letters : FC := fun ds n Q => ∃ many : Nat, ds = [dice, .int many] ∧ many ≤ 26 ∧ n + DRW * 26 ≤ LIM ∧ ∀ s m, Letters many s → n ≤ m → m ≤ n + DRW * 26 → Q (.val (.str s)) m
theorem law__law_letters : ∀ ds n Q, F__law_letters ds n Q → ds.length = 2 → cm__law_letters F_draw { nx := fun _ m => Q (.val .non) m, rt := Q } (startE 4 ds) n := by
  rintro ds n Q ⟨many, rfl, hm, hn, h⟩ _
  unfold cm__law_letters
  rw [show ([97, 98, 99, 100, 101, 102, 103, 104, 105, 106, 107, 108, 109, 110, 111, 112, 113, 114, 115, 116, 117, 118, 119, 120, 121, 122] : List Nat) = ABC from rfl]
  obtain ⟨A, eA, abc_len, abc_nodup, abc_low⟩ : ∃ A : List Nat, ABC = A ∧ A.length = 26 ∧ A.Nodup ∧ ∀ c ∈ A, 97 ≤ c ∧ c ≤ 122 := ⟨ABC, rfl, abc_len, abc_nodup, abc_low⟩
  rw [eA]
  refine sSeq_of fun next0 hn0 => ?_
  simp
  refine hn0 _ _ ?_
  refine sSeq_of fun next1 hn1 => ?_
  simp
  refine ⟨by omega, ?_⟩
  rw [ups_eq]
  refine forD_inv (fun pre env m => ∃ (cs : List Nat) (x3 x4 : Option Sl), env = [some (.val dice), some (.val (.int many)), some (.own (cs.map fun c => .str [c])), x3, x4, none] ∧ cs.length = pre.length ∧ cs.Nodup ∧ (∀ c ∈ cs, c ∈ A) ∧ n ≤ m ∧ m ≤ n + DRW * pre.length) ?_ ?_ ⟨[], none, none, rfl, rfl, .nil, fun _ h => (nomatch h), Nat.le_refl _, Nat.le_refl _⟩
  · rintro pre a post env m next hx ⟨cs, x3, x4, rfl, hl, hnd, hsub, hm1, hm2⟩ hnext
    obtain ⟨hpl, rfl⟩ := range_pre hx
    simp only [DRW, LIM] at *
    refine sSeq_of fun next2 hn2 => ?_
    simp
    refine ⟨26, rfl, by decide, by decide, by simp only [DRW, LIM]; omega, fun r m2 hr hr' hm3 hm4 => ?_⟩
    simp only [DRW, LIM] at *
    obtain ⟨c, hc, hcm⟩ := atI_ok (xs := A) hr (by rw [abc_len]; exact hr')
    simp
    refine ⟨c, hc, hn2 _ _ ?_⟩
    simp
    have fin : ∀ d, d ∈ A → d ∉ cs → ∀ e, e = [some (.val dice), some (.val (.int many)), some (.own ((cs ++ [d]).map fun c => .str [c])), some (.val (.int (pre.length : Int))), some (.val (.str [c])), none] → next e m2 := fun d hd hd2 e he => by
      refine hnext _ _ ⟨cs ++ [d], _, _, he, by simp [hl], ?_, ?_, by omega, by simp; omega⟩
      · refine List.nodup_append.mpr ⟨hnd, by simp, ?_⟩
        intro x hx y hy e
        simp at hy
        subst hy e
        exact hd2 hx
      · intro x hx
        rcases List.mem_append.mp hx with h1 | h1
        · exact hsub x h1
        · simp at h1; subst h1; exact hd
    by_cases hcs : c ∈ cs
    · rw [if_pos hcs]
      refine goD_filter (fun d => decide (d ∉ cs)) (fun d => .str [d]) (fun d hd k K hT hF => ?_) ?_
      · simp [stepD]
        by_cases hdc : d ∈ cs
        · rw [if_pos hdc]; exact hF (by simpa using hdc)
        · rw [if_neg hdc]; exact hT (by simpa using hdc)
      · obtain ⟨d, hd, hdc⟩ : ∃ d, d ∈ A ∧ d ∉ cs := by
          refine Classical.byContradiction fun hno => ?_
          have : A.length ≤ cs.length := nodup_le abc_nodup fun d hd => Classical.byContradiction fun hc => hno ⟨d, hd, hc⟩
          have e26 := abc_len
          omega
        have hne : d ∈ A.filter (fun d => decide (d ∉ cs)) := List.mem_filter.mpr ⟨hd, by simpa using hdc⟩
        cases hf : A.filter (fun d => decide (d ∉ cs)) with
        | nil => rw [hf] at hne; cases hne
        | cons e es =>
          have he : e ∈ A.filter (fun d => decide (d ∉ cs)) := by rw [hf]; simp
          have he := List.mem_filter.mp he
          simp
          refine ⟨_, by rw [show (0 : Int) = ((0 : Nat) : Int) from rfl]; exact atI_nat' rfl, rfl, by omega, ?_⟩
          exact fin e he.1 (by simpa using he.2) _ (by simp)
    · rw [if_neg hcs]
      refine ⟨by omega, ?_⟩
      exact fin c hcm hcs _ (by simp)
  · rintro env m ⟨cs, x3, x4, rfl, hl, hnd, hsub, hm1, hm2⟩
    refine hn1 _ _ ?_
    simp at hl hm2
    simp
    refine .inl ⟨cs.map fun c => [c], by simp, by simp; omega, fun ts hp hs => ?_⟩
    obtain ⟨ds, rfl, hd⟩ := perm_ones hp
    rw [List.map_map] at hs
    have hs := sorted_lt (cs := ds) hs (hd.nodup_iff.mpr hnd)
    refine join_ones (cs := ds) (by rw [hd.length_eq]; omega) ?_
    refine ⟨rfl, ?_⟩
    refine h ds m ⟨by rw [hd.length_eq, hl], low_iff.mpr fun c hc => abc_low c (hsub c (hd.mem_iff.mp hc)), hs⟩ hm1 (by simp only [DRW] at *; omega)
theorem ones_of {P : Nat → Prop} : ∀ {ys : List D}, (∀ y ∈ ys, ∃ c : Nat, y = .str [c] ∧ P c) → ∃ cs : List Nat, ys = (cs.map fun c => [c]).map D.str ∧ ∀ c ∈ cs, P c
  | [], _ => ⟨[], rfl, fun _ h => nomatch h⟩
  | y :: ys, h => by
    obtain ⟨r, rfl, hr⟩ := h y (List.mem_cons_self ..)
    obtain ⟨rs, rfl, hrs⟩ := ones_of (fun y hy => h y (List.mem_cons_of_mem _ hy))
    refine ⟨r :: rs, rfl, fun x hx => ?_⟩
    rcases List.mem_cons.mp hx with rfl | hx
    · exact hr
    · exact hrs x hx
end DL
namespace DL
open PySem L2 PyProof.Rows
/-- single signs drawn out of some -/
theorem draw_ones {s : List Nat} {a1 a2 a4 a5 a6 a7 a8 : Option D} {k n : Nat} {lo : Int} {Q : List D → Nat → Prop} (hs : s ≠ []) (hsl : s.length ≤ 1000) (hB : n + DRW * k ≤ LIM) (hQ : ∀ (cs : List Nat) m, (∀ c ∈ cs, c ∈ s) → cs.length = k → n ≤ m → m ≤ n + DRW * k → Q ((cs.map fun c => [c]).map D.str) m) :
    goD (gN 8) tYesD (fCall 2 F_one_of [] (aCons (fVar 0) (aCons (fVar 3) aNil))) [some dice, a1, a2, some (.lst (s.map fun c => .str [c])), a4, a5, a6, a7, a8] (ups lo k) n Q := by
  rw [ups_eq]
  refine goD_draws DRW (fun y => ∃ c : Nat, y = .str [c] ∧ c ∈ s) LIM (by simpa using hB) (fun a ha m K hm hK => ?_) fun ys m h1 h2 hys hyl => ?_
  · simp [stepD]
    refine ⟨_, rfl, by simpa using hs, by simp; omega, hm, fun x m5 hx hx1 hx2 => ?_⟩
    obtain ⟨c, hc, rfl⟩ := List.mem_map.mp hx
    exact hK _ _ hx1 hx2 ⟨c, rfl, hc⟩
  · obtain ⟨cs, rfl, hcs⟩ := ones_of hys
    simp at hyl h2
    exact hQ cs m hcs hyl h1 h2
theorem rep_mem {s w : List Nat} {k : Nat} (h : ∀ c ∈ w, c ∈ s) : ∀ c ∈ (List.replicate k w).flatten, c ∈ s := fun c hc => by
  obtain ⟨l, hl, hc⟩ := List.mem_flatten.mp hc
  rw [(List.mem_replicate.mp hl).2] at hc
  exact h c hc
theorem rep_len {w : List Nat} {k : Nat} : (List.replicate k w).flatten.length = k * w.length := by simp
def F__law_text : FC := fun ds n Q => ∃ (s : List Nat) (g most : Nat), ds = [dice, .tup [.str s, .int g], .int most] ∧ s ≠ [] ∧ s.length ≤ 26 ∧ 1 ≤ g ∧ g ≤ 100 ∧ most ≤ 100000 ∧ n + DRW * 100000000 ≤ LIM ∧
  ∀ (t : List Nat) m, (∀ c ∈ t, c ∈ s) → t.length ≤ most → n ≤ m → m ≤ n + DRW * 100000000 → Q (.val (.str t)) m
theorem law__law_text : ∀ ds n Q, F__law_text ds n Q → ds.length = 3 → cm__law_text F_draw F_one_of { nx := fun _ m => Q (.val .non) m, rt := Q } (startE 6 ds) n := by
  rintro ds n Q ⟨s, g, most, rfl, hs, hsl, hg1, hg2, hm, hn, h⟩ _
  simp only [DRW, LIM] at *
  unfold cm__law_text
  refine sSeq_of fun next0 hn0 => ?_
  simp
  refine ⟨_, by rw [show (0 : Int) = ((0 : Nat) : Int) from rfl]; exact atI_nat' rfl, ?_⟩
  simp
  refine hn0 _ _ ?_
  refine sSeq_of fun next1 hn1 => ?_
  simp
  refine ⟨(most : Int) + 1, rfl, by omega, ?_, by simp only [DRW, LIM]; omega, fun size0 m1 hz1 hz2 hm1 hm2 => ?_⟩
  · have h3 : ((most : Int) + 1).natAbs < 2 ^ 30 := by omega
    have := (Nat.log2_lt (by omega)).mpr h3
    omega
  obtain ⟨size, rfl⟩ : ∃ size : Nat, size0 = size := ⟨size0.toNat, by omega⟩
  simp only [DRW] at hm2
  simp
  refine hn1 _ _ ?_
  refine sSeq_of fun next2 hn2 => ?_
  unfold sWhile
  refine ⟨fun k env j => ∃ (found : List Nat) (x6 x7 : Option Sl), env = [some (.val dice), some (.val (.tup [.str s, .int g])), some (.val (.int most)), some (.val (.lst (s.map fun c => .str [c]))), some (.val (.str found)), some (.val (.int size)), x6, x7, none] ∧ k = size - found.length ∧ (∀ c ∈ found, c ∈ s) ∧ n ≤ j ∧ j + 80000 * k ≤ n + 400 + 80000 * size, ⟨size, [], none, none, rfl, by simp, fun _ h => (nomatch h), by omega, by omega⟩, ?_⟩
  rintro k env j ⟨found, x6, x7, rfl, rfl, hf, hj1, hj2⟩
  by_cases hlt : found.length < size
  · simp [hlt]
    refine sSeq_of fun next3 hn3 => ?_
    simp
    refine ⟨4, rfl, by decide, by decide, by simp only [DRW, LIM]; omega, fun way m3 hw1 hw2 hm3 hm4 => ?_⟩
    simp only [DRW] at hm4
    simp
    refine hn3 _ _ ?_
    have fin : ∀ (w : List Nat) (j2 : Nat), (∀ c ∈ w, c ∈ s) → 1 ≤ w.length → j ≤ j2 → j2 ≤ j + 400 * 200 → ∃ k' < size - found.length, k' = size - (found.length + w.length) ∧ (∀ c, c ∈ found ∨ c ∈ w → c ∈ s) ∧ n ≤ j2 ∧ j2 + 80000 * k' ≤ n + 400 + 80000 * size := by
      intro w j2 hw hw1 hj3 hj4
      refine ⟨_, by omega, rfl, fun c hc => ?_, by omega, by omega⟩
      rcases hc with hc | hc
      · exact hf c hc
      · exact hw c hc
    by_cases hw0 : way = 0
    · simp [hw0]
      refine sSeq_of fun next4 hn4 => ?_
      simp
      refine ⟨_, by rw [show (1 : Int) = ((1 : Nat) : Int) from rfl]; exact atI_nat' rfl, ?_⟩
      refine ⟨g, rfl, by omega, ?_, by simp only [DRW, LIM]; omega, fun q m4 hq1 hq2 hm5 hm6 => ?_⟩
      · have h3 : ((g : Int)).natAbs < 2 ^ 30 := by omega
        have := (Nat.log2_lt (by omega)).mpr h3
        omega
      simp only [DRW] at hm6
      simp
      refine ⟨⟨by omega, by omega⟩, ?_⟩
      refine draw_ones hs (by omega) (by simp only [DRW, LIM]; omega) fun cs m5 hcs hcl hm7 hm8 => ?_
      simp only [DRW] at hm8
      refine join_ones (cs := cs) (by omega) ?_
      refine hn4 _ _ ?_
      simp
      refine ⟨4, rfl, by decide, by decide, by simp only [DRW, LIM]; omega, fun t m6 ht1 ht2 hm9 hm10 => ?_⟩
      simp only [DRW] at hm10
      have hl : sizeLine = 16777216 := PySem.sizeLine_eq
      have e2 : (1 + t).toNat * cs.length ≤ 4 * 101 := Nat.mul_le_mul (by omega) (by omega)
      have e3 : cs.length * (1 + t).toNat = (1 + t).toNat * cs.length := Nat.mul_comm _ _
      have := fin (List.replicate (1 + t).toNat cs).flatten m6 (rep_mem hcs) (by rw [rep_len]; exact Nat.mul_pos (by omega) (by omega)) (by omega) (by omega)
      rw [rep_len] at this
      simp
      refine ⟨⟨by omega, by omega, by omega⟩, by omega, ?_⟩
      simpa using this
    · by_cases hw1 : way = 1
      · simp [hw0, hw1]
        obtain ⟨c0, cs, rfl⟩ : ∃ c0 cs, s = c0 :: cs := by
          cases s with
          | nil => exact absurd rfl hs
          | cons a b => exact ⟨a, b, rfl⟩
        refine ⟨_, by rw [show (0 : Int) = ((0 : Nat) : Int) from rfl]; exact atI_nat' rfl, ?_⟩
        refine ⟨3, rfl, by decide, by decide, by simp only [DRW, LIM]; omega, fun t m6 ht1 ht2 hm9 hm10 => ?_⟩
        simp only [DRW] at hm10
        have hl : sizeLine = 16777216 := PySem.sizeLine_eq
        simp
        refine ⟨⟨by omega, by omega, by omega⟩, by omega, ?_⟩
        refine ⟨_, by omega, rfl, fun c hc => ?_, by omega, by omega⟩
        rcases hc with hc | hc
        · simpa using hf c hc
        · exact .inl hc.2
      · simp [hw0, hw1]
        refine ⟨4, rfl, by decide, by decide, by simp only [DRW, LIM]; omega, fun q m4 hq1 hq2 hm5 hm6 => ?_⟩
        simp only [DRW] at hm6
        simp
        refine ⟨⟨by omega, by omega⟩, ?_⟩
        refine draw_ones hs (by omega) (by simp only [DRW, LIM]; omega) fun cs m5 hcs hcl hm7 hm8 => ?_
        simp only [DRW] at hm8
        refine join_ones (cs := cs) (by omega) ?_
        simp
        refine ⟨by omega, fin cs m5 hcs (by omega) (by omega) (by omega)⟩
  · simp [hlt]
    refine hn2 _ _ ?_
    simp
    have e : cutL found none (some (size : Int)) = found.take size := by
      unfold cutL
      have : HT.sIx found.length found.length (some (size : Int)) = min size found.length := HT.sIx_nat _ _ _
      rw [this]
      show (found.drop 0).take (min size found.length - 0) = _
      rw [List.drop_zero, Nat.sub_zero, Nat.min_eq_left (by omega)]
    rw [e]
    refine h _ _ (fun c hc => hf c (List.mem_of_mem_take hc)) (by rw [List.length_take]; omega) hj1 (by omega)
end DL
namespace DL
open PySem L2 PyProof.Rows
/-- sizes of grounds: signs, gap, how many orders -/
def GL : List (Nat × Nat × Nat) := [(2, 2, 2), (3, 2, 6), (2, 3, 12), (4, 2, 12), (5, 2, 20), (2, 4, 54), (3, 3, 72)]
structure Gnd (most : Int) (s : List Nat) (g : Nat) : Prop where
  let_ : Letters s.length s
  sz : ∃ q ∈ GL, q.1 = s.length ∧ q.2.1 = g ∧ (q.2.2 : Int) ≤ most
theorem Gnd.two {most : Int} {s : List Nat} {g : Nat} (h : Gnd most s g) : 2 ≤ s.length ∧ s.length ≤ 5 ∧ 2 ≤ g ∧ g ≤ 4 := by
  obtain ⟨q, hq, h1, h2, _⟩ := h.sz
  rw [← h1, ← h2]
  have : ∀ q ∈ GL, 2 ≤ q.1 ∧ q.1 ≤ 5 ∧ 2 ≤ q.2.1 ∧ q.2.1 ≤ 4 := by decide
  exact this q hq
def F__law_ground : FC := fun ds n Q => ∃ most : Int, ds = [dice, .int most] ∧ 2 ≤ most ∧ n + DRW * 100 ≤ LIM ∧ ∀ s g m, Gnd most s g → n ≤ m → m ≤ n + DRW * 100 → Q (.val (.tup [.str s, .int (g : Nat)])) m
theorem letters_abc : ∀ k ≤ 8, Letters k ([97, 98, 99, 100, 101, 102, 103, 104].take k) := by
  intro k hk
  refine ⟨by simp; omega, low_iff.mpr fun c hc => ?_, ?_⟩
  · have := List.mem_of_mem_take hc
    simp at this
    omega
  · exact (by decide : ([97, 98, 99, 100, 101, 102, 103, 104] : List Nat).Pairwise (· < ·)).take
theorem law__law_ground : ∀ ds n Q, F__law_ground ds n Q → ds.length = 2 → cm__law_ground F_draw F__law_letters F_one_of { nx := fun _ m => Q (.val .non) m, rt := Q } (startE 5 ds) n := by
  rintro ds n Q ⟨most, rfl, hm, hn, h⟩ _
  simp only [DRW, LIM] at *
  unfold cm__law_ground
  refine sSeq_of fun next0 hn0 => ?_
  simp
  refine ⟨by decide, by decide, hn0 _ _ ?_⟩
  refine sSeq_of fun next1 hn1 => ?_
  simp
  refine ⟨by decide, hn1 _ _ ?_⟩
  obtain ⟨L, eL, hl, hlo⟩ : ∃ L : List (Nat × Nat × Nat), GL = L ∧ L.length = 7 ∧ (2, 2, 2) ∈ L := ⟨GL, rfl, rfl, by decide⟩
  have e1 : [D.tup [D.int 2, D.int 2], D.tup [D.int 3, D.int 2], D.tup [D.int 2, D.int 3], D.tup [D.int 4, D.int 2], D.tup [D.int 5, D.int 2], D.tup [D.int 2, D.int 4], D.tup [D.int 3, D.int 3]] = L.map fun q => D.tup [.int (q.1 : Nat), .int (q.2.1 : Nat)] := by rw [← eL]; rfl
  have e2 : [D.int 2, D.int 6, D.int 12, D.int 12, D.int 20, D.int 54, D.int 72] = L.map fun q => D.int (q.2.2 : Nat) := by rw [← eL]; rfl
  rw [e1, e2]
  refine sSeq_of fun next2 hn2 => ?_
  simp
  rw [ups_eq]
  refine goD_filter (fun i : Nat => decide (((L.getD i (0, 0, 0)).2.2 : Int) ≤ most)) (fun i : Nat => D.tup [.int ((L.getD i (0, 0, 0)).1 : Nat), .int ((L.getD i (0, 0, 0)).2.1 : Nat)]) (fun i hi m K hT hF => ?_) ?_
  · have hi : i < 7 := List.mem_range.mp hi
    have g1 : atI (L.map fun q => D.int (q.2.2 : Nat)) (i : Int) = some (.int ((L.getD i (0, 0, 0)).2.2 : Nat)) := by
      refine atI_nat' ?_
      rw [List.getElem?_map, List.getElem?_eq_getElem (by omega), List.getD_eq_getElem?_getD, List.getElem?_eq_getElem (by omega)]
      rfl
    have g2 : atI (L.map fun q => D.tup [.int (q.1 : Nat), .int (q.2.1 : Nat)]) (i : Int) = some (D.tup [.int ((L.getD i (0, 0, 0)).1 : Nat), .int ((L.getD i (0, 0, 0)).2.1 : Nat)]) := by
      refine atI_nat' ?_
      rw [List.getElem?_map, List.getElem?_eq_getElem (by omega), List.getD_eq_getElem?_getD, List.getElem?_eq_getElem (by omega)]
      rfl
    simp [stepD]
    refine ⟨_, g1, ?_⟩
    by_cases hc : ((L.getD i (0, 0, 0)).2.2 : Int) ≤ most
    · simp only [List.getD_eq_getElem?_getD] at hc hT ⊢
      simp [hc] at hT ⊢
      refine ⟨_, g2, ?_⟩
      simpa using hT
    · simp only [List.getD_eq_getElem?_getD] at hc hF ⊢
      simp [hc] at hF ⊢
      exact hF
  refine ⟨_, rfl, ?_, ?_, by simp only [DRW, LIM]; omega, fun x m hx hm1 hm2 => ?_⟩
  · obtain ⟨i, hi, e⟩ := List.getElem_of_mem hlo
    intro hno
    have hmem : i ∈ (List.range 7).filter (fun i : Nat => decide (((L.getD i (0, 0, 0)).2.2 : Int) ≤ most)) := List.mem_filter.mpr ⟨List.mem_range.mpr (by omega), by
      rw [List.getD_eq_getElem?_getD, List.getElem?_eq_getElem hi]
      simp [e]; omega⟩
    rw [List.map_eq_nil_iff] at hno
    rw [hno] at hmem
    cases hmem
  · have := List.length_filter_le (fun i : Nat => decide (((L.getD i (0, 0, 0)).2.2 : Int) ≤ most)) (List.range 7)
    rw [List.length_range] at this
    rw [List.length_map]
    omega
  obtain ⟨i, hi, rfl⟩ := List.mem_map.mp hx
  obtain ⟨hi1, hi2⟩ := List.mem_filter.mp hi
  have hi1 : i < 7 := List.mem_range.mp hi1
  simp only [decide_eq_true_eq] at hi2
  obtain ⟨⟨a, b, c⟩, hq, eq⟩ : ∃ q, q ∈ L ∧ L.getD i (0, 0, 0) = q := ⟨L[i], List.getElem_mem _, by rw [List.getD_eq_getElem?_getD, List.getElem?_eq_getElem (by omega)]; rfl⟩
  rw [eq] at hi2 ⊢
  simp only [DRW] at hm2
  have hall : ∀ q ∈ L, 2 ≤ q.1 ∧ q.1 ≤ 5 := by rw [← eL]; decide
  have ha := hall _ hq
  simp only at ha
  simp
  refine hn2 _ _ ?_
  simp
  refine ⟨2, rfl, by decide, by decide, by simp only [DRW, LIM]; omega, fun r m3 hr1 hr2 hm3 hm4 => ?_⟩
  simp only [DRW] at hm4
  by_cases hr : r = 0
  · simp [hr]
    refine ⟨a, by simp, by omega, by simp only [DRW, LIM]; omega, fun s m4 hs hm5 hm6 => ?_⟩
    simp only [DRW] at hm6
    simp
    refine ⟨by decide, ?_⟩
    refine h s b m4 ⟨by rw [hs.len]; exact hs, (a, b, c), by rw [eL]; exact hq, hs.len.symm, rfl, hi2⟩ (by omega) (by omega)
  · simp [hr]
    refine ⟨by decide, ?_⟩
    have e : cutL [97, 98, 99, 100, 101, 102, 103, 104] none (some (a : Int)) = ([97, 98, 99, 100, 101, 102, 103, 104] : List Nat).take a := by
      unfold cutL
      have : HT.sIx ([97, 98, 99, 100, 101, 102, 103, 104] : List Nat).length ([97, 98, 99, 100, 101, 102, 103, 104] : List Nat).length (some (a : Int)) = min a 8 := HT.sIx_nat _ _ _
      rw [this]
      show (([97, 98, 99, 100, 101, 102, 103, 104] : List Nat).drop 0).take (min a 8 - 0) = _
      rw [List.drop_zero, Nat.sub_zero, Nat.min_eq_left (by omega)]
    rw [e]
    have hs := letters_abc a (by omega)
    refine h _ b m3 ⟨by rw [hs.len]; exact hs, (a, b, c), by rw [eL]; exact hq, hs.len.symm, rfl, hi2⟩ (by omega) (by omega)
end DL
namespace DL
open PySem L2
theorem cutL_nat {α : Type} (s : List α) (a b : Nat) : cutL s (some (a : Int)) (some (b : Int)) = (s.drop (min a s.length)).take (min b s.length - min a s.length) := by
  unfold cutL
  rw [HT.sIx_nat, HT.sIx_nat]
theorem cutL_in {α : Type} (s : List α) {a b : Nat} (h1 : a ≤ s.length) (h2 : b ≤ s.length) : cutL s (some (a : Int)) (some (b : Int)) = (s.drop a).take (b - a) := by
  rw [cutL_nat, Nat.min_eq_left h1, Nat.min_eq_left h2]
theorem cutL_tail {α : Type} (s : List α) : cutL s (some 1) none = s.drop 1 := by
  unfold cutL
  have e : HT.sIx s.length 0 (some 1) = min 1 s.length := HT.sIx_nat s.length 0 1
  rw [e]
  show (s.drop (min 1 s.length)).take (s.length - min 1 s.length) = s.drop 1
  cases s with
  | nil => rfl
  | cons x s => simp
abbrev I (ps : List Nat) : List D := ps.map fun p : Nat => D.int p
theorem plains_I {k : Nat} : ∀ ps : List Nat, plains k (I ps) = true
  | [] => by simp
  | p :: ps => by simp [plains_I ps]
theorem exact_same {k n : Nat} {x : D} {Q : Sl → Nat → Prop} (hp : plain k x = true) (h : Q (.val (.bl true)) n) : F_exact k [x, x] n Q := ⟨x, x, rfl, hp, hp, by simpa using h⟩
theorem forD_inv0 {tg : SG} {body : FS} {E : DEnds} (I : List D → SEnv → Nat → Prop) {xs : List D}
    (H : ∀ (pre : List D) (a : D) (post : List D) (env : SEnv) (n : Nat) (next : SEnv → Nat → Prop), xs = pre ++ a :: post → I pre env n → (∀ e m, I (pre ++ [a]) e m → next e m) → tg a env fun env' => body { nx := next, ct := next, bk := E.nx, rt := E.rt } env' n)
    (hE : ∀ env n, I xs env n → E.nx env n) {env : SEnv} {n : Nat} (h0 : I [] env n) : forD tg body E xs env n := by
  have := forD_inv (c := id) I H hE h0
  rwa [List.map_id] at this
theorem up_I (zs : List Nat) : zs.map (fun i : Nat => D.int (1 + (i : Int))) = I (zs.map fun i => 1 + i) := by
  show _ = (zs.map fun i => 1 + i).map (fun p : Nat => D.int (p : Int))
  rw [List.map_map]
  refine List.map_congr_left fun i _ => ?_
  show D.int (1 + (i : Int)) = D.int ((1 + i : Nat) : Int)
  congr 1
theorem cutL_take {α : Type} (s : List α) (k : Nat) : cutL s none (some (k : Int)) = s.take k := by
  unfold cutL
  have : HT.sIx s.length s.length (some (k : Int)) = min k s.length := HT.sIx_nat _ _ _
  rw [this]
  show (s.drop 0).take (min k s.length - 0) = _
  rw [List.drop_zero, Nat.sub_zero]
  by_cases h : k ≤ s.length
  · rw [Nat.min_eq_left h]
  · rw [Nat.min_eq_right (by omega), List.take_of_length_le (Nat.le_refl _), List.take_of_length_le (by omega)]
theorem cutL_drop {α : Type} (s : List α) (k : Nat) : cutL s (some (k : Int)) none = s.drop k := by
  unfold cutL
  have : HT.sIx s.length 0 (some (k : Int)) = min k s.length := HT.sIx_nat _ _ _
  rw [this]
  show (s.drop (min k s.length)).take (s.length - min k s.length) = _
  by_cases h : k ≤ s.length
  · rw [Nat.min_eq_left h, List.take_of_length_le (by simp)]
  · rw [Nat.min_eq_right (by omega), List.drop_of_length_le (Nat.le_refl _), List.drop_of_length_le (by omega)]; simp
end DL
namespace DL
open PySem L2
theorem log_small {many : Int} (h1 : 1 ≤ many) (h2 : many < 1073741824) : many.natAbs.log2 < 9000 := by
  have h3 : many.natAbs < 2 ^ 30 := by omega
  have := (Nat.log2_lt (by omega)).mpr h3
  omega
theorem draw_of {many : Int} {n : Nat} {K : Sl → Nat → Prop} (h1 : 1 ≤ many) (h2 : many < 1073741824) (hn : n + 400 ≤ 1000000000000000000) (h : ∀ (r m : Nat), (r : Int) < many → n ≤ m → m ≤ n + 400 → K (.val (.int r)) m) : F_draw [dice, .int many] n K :=
  ⟨many, rfl, h1, log_small h1 h2, by simp only [DRW, LIM]; omega, fun r m hr1 hr2 hm1 hm2 => by
    obtain ⟨k, rfl⟩ := Int.eq_ofNat_of_zero_le hr1
    exact h k m hr2 hm1 (by simpa only [DRW] using hm2)⟩
theorem text_of {s : List Nat} {g most n : Nat} {K : Sl → Nat → Prop} (hs0 : s ≠ []) (hs : s.length ≤ 26) (hl : low s = true) (g1 : 1 ≤ g) (g2 : g ≤ 100) (hm : most ≤ 100000) (hn : n + 40000000000 ≤ 1000000000000000000)
    (h : ∀ t m, low t = true → (∀ c ∈ t, c ∈ s) → t.length ≤ most → n ≤ m → m ≤ n + 40000000000 → K (.val (.str t)) m) : F__law_text [dice, .tup [.str s, .int (g : Nat)], .int (most : Nat)] n K :=
  ⟨s, g, most, rfl, hs0, hs, g1, g2, hm, by simp only [DRW, LIM]; omega, fun t m ht hl' h3 h4 => h t m (low_iff.mpr fun c hc => low_iff.mp hl c (ht c hc)) ht hl' h3 (by simpa only [DRW] using h4)⟩
/-- the loop over the dice of a law -/
theorem dices_inv {tg : SG} {body : FS} {E : DEnds} {k c : Nat} {env : SEnv} (sh : SEnv → Prop) (hk : k ≤ 60) (hc : c * 60 ≤ 1000000000000000000)
    (H : ∀ (env : SEnv) (n : Nat) (next : SEnv → Nat → Prop), sh env → n + c ≤ 1000000000000000000 → (∀ e m, sh e → m ≤ n + c → next e m) → tg dice env fun env' => body { nx := next, ct := next, bk := E.nx, rt := E.rt } env' n)
    (hE : ∀ env n, sh env → n ≤ c * k → E.nx env n) (h0 : sh env) : forD tg body E (List.replicate k dice) env 0 := by
  refine forD_inv0 (fun pre env m => sh env ∧ m ≤ pre.length * c) ?_ (fun env n h => hE env n h.1 (by have := h.2; simp at this; rw [Nat.mul_comm]; exact this)) ⟨h0, by simp⟩
  rintro pre a post env m next hx ⟨hs, hm⟩ hn
  have ha : a = dice := by
    have : a ∈ List.replicate k dice := by rw [hx]; simp
    exact (List.mem_replicate.mp this).2
  subst ha
  have hlen := congrArg List.length hx
  simp at hlen
  have h1 : (pre.length + 1) * c ≤ 60 * c := Nat.mul_le_mul_right c (by omega)
  rw [Nat.succ_mul] at h1
  refine H env m next hs (by rw [Nat.mul_comm 60 c] at h1; omega) fun e m' hs' hm' => hn e m' ⟨hs', ?_⟩
  rw [List.length_append, Nat.add_mul]
  simp
  omega
@[simp] theorem atI_0 {α : Type} (x : α) (xs : List α) : atI (x :: xs) 0 = some x := by
  rw [show (0 : Int) = ((0 : Nat) : Int) from rfl]; exact atI_nat' rfl
@[simp] theorem atI_1 {α : Type} (x y : α) (xs : List α) : atI (x :: y :: xs) 1 = some y := by
  rw [show (1 : Int) = ((1 : Nat) : Int) from rfl]; exact atI_nat' rfl
@[simp] theorem atI_2 {α : Type} (x y z : α) (xs : List α) : atI (x :: y :: z :: xs) 2 = some z := by
  rw [show (2 : Int) = ((2 : Nat) : Int) from rfl]; exact atI_nat' rfl
@[simp] theorem atI_3 {α : Type} (x y z w : α) (xs : List α) : atI (x :: y :: z :: w :: xs) 3 = some w := by
  rw [show (3 : Int) = ((3 : Nat) : Int) from rfl]; exact atI_nat' rfl
theorem cutL_take1 {α : Type} (s : List α) : cutL s none (some 1) = s.take 1 := cutL_take s 1
theorem atI_D {s : List Nat} {i : Nat} (h : i < s.length) : atI s (i : Int) = some (s.getD i 0) := by
  refine atI_nat' ?_
  rw [List.getElem?_eq_getElem h, List.getD_eq_getElem?_getD, List.getElem?_eq_getElem h]
  rfl
end DL
namespace DL
open PySem L2
def isPer (s : List Nat) (p : Nat) : Bool := decide (p < s.length) && (s.drop p == s.take (s.length - p))
def upto (n : Nat) : List Nat := (List.range (n - 1)).map fun i => 1 + i
theorem mem_upto {n p : Nat} : p ∈ upto n ↔ 1 ≤ p ∧ p < n := by
  unfold upto
  rw [List.mem_map]
  refine ⟨fun ⟨i, hi, e⟩ => ?_, fun h => ⟨p - 1, List.mem_range.mpr (by omega), by omega⟩⟩
  have := List.mem_range.mp hi
  omega
theorem ups_upto' (n : Nat) : ups 1 (n - 1) = I (upto n) := by
  rw [ups_eq]
  exact up_I _
def F_has : FC := fun ds n Q => ∃ (s : List Nat) (p : Nat), ds = [.str s, .int p] ∧ s.length ≤ 1000000 ∧ Q (.val (.bl (isPer s p))) n
theorem law_has : ∀ ds n Q, F_has ds n Q → ds.length = 2 → cm_has { nx := fun _ m => Q (.val .non) m, rt := Q } (startE 0 ds) n := by
  rintro ds n Q ⟨s, p, rfl, hz, h⟩ _
  unfold isPer at h
  simp [cm_has]
  by_cases hp : p < s.length
  · simp [hp] at h ⊢
    have e : (s.length : Int) - (p : Int) = ((s.length - p : Nat) : Int) := by omega
    rw [e, cutL_take, cutL_drop]
    exact h
  · simp [hp] at h ⊢
    exact h
end DL
namespace DL
open PySem L2
end DL
namespace DL
open PySem PySem.Spec PyProof.Rows L2
/-- a ground -/
abbrev gnd (s : List Nat) (g : Nat) : D := .box 1 [.str s, .int (g : Nat)]
def gf (s : List Nat) (g : Nat) (kn : Addr) : List (Str × V) := putF "known" (.ref kn) (putF "span" (.int (2 * (g : Int) - 2)) (putF "least" (.int g) (putF "row" (.str ⟨s.toArray⟩) [])))
/-- a kit with nothing of its own, for what the invariants say -/
def kitN (K : PySem.W.Frag) : Kit := ⟨K, fun _ => none, fun _ _ _ _ => False, fun _ => none, fun _ _ _ _ _ _ _ _ h => h.elim, fun _ _ _ _ h => h.elim⟩
/-- what may be noted of a ground: by names, what each one tells -/
abbrev CV := List Nat → Nat → Key → Option D
def GrdJ (C : Addr) (s : List Nat) (g : Nat) (P : Wd) (o : HO) : Prop := OkS s ∧ ∃ dx kn, o = .ins C dx (gf s g kn) ∧ P.iv kn = some (2, [.str s, .int (g : Nat)])
def KnJ (K : PySem.W.Frag) (cv : CV) (s : List Nat) (g : Nat) (P : Wd) (o : HO) : Prop := ∃ kvs : List (Key × V), o = .dK kvs ∧ (kvs.map (·.1)).Nodup ∧ ∀ k v, valV kvs k = some v → ∃ d, cv s g k = some d ∧ Rep (kitN K) P.fz P.iv v d
/-- the names under which something may be noted -/
def ckeys : List Key := [.inr "own", .inr "near", .inr "rounds"]
/-- a kit whose objects of kind 1 and 2 are grounds and what is noted of them -/
structure HasGnd (κ : Kit) (C : Addr) (cv : CV) : Prop where
  d : HasDice κ
  ck : ∀ s g k d, cv s g k = some d → k ∈ ckeys
  j1 : ∀ s g P o, κ.J 1 [.str s, .int (g : Nat)] P o ↔ GrdJ C s g P o
  j2 : ∀ s g P o, κ.J 2 [.str s, .int (g : Nat)] P o ↔ KnJ κ.K cv s g P o
  rg : ∀ i j P o, κ.J 5 [.int i, .int j] P o ↔ o = .rng i j
section
variable {κ : Kit} {X : Cx} {C : Addr} {cv : CV} {a b c e : Expr} {es : List Expr} {fa fb f : FE} {far : FA} {pos p p2 : Pos}
/-- .row, .least, .span -/
def gRow (d : D) (n : Nat) (Q : D → Nat → Prop) : Prop := ∃ (s : List Nat) (g : Nat), d = gnd s g ∧ Q (.str s) n
def gLeast (d : D) (n : Nat) (Q : D → Nat → Prop) : Prop := ∃ (s : List Nat) (g : Nat), d = gnd s g ∧ Q (.int (g : Nat)) n
def gSpan (d : D) (n : Nat) (Q : D → Nat → Prop) : Prop := ∃ (s : List Nat) (g : Nat), d = gnd s g ∧ Q (.int (2 * (g : Int) - 2)) n
theorem gnd_inj {s t : List Nat} {g k : Nat} (e : gnd s g = gnd t k) : s = t ∧ g = k := by
  simp only [gnd, D.box.injEq, List.cons.injEq, D.str.injEq, D.int.injEq, and_true, true_and] at e
  exact ⟨e.1, by omega⟩
@[simp] theorem w_row {s : List Nat} {g n : Nat} {Q : D → Nat → Prop} : gRow (gnd s g) n Q = Q (.str s) n := by
  refine propext ⟨?_, fun h => ⟨s, g, rfl, h⟩⟩
  rintro ⟨t, k, e, h⟩
  obtain ⟨rfl, rfl⟩ := gnd_inj e
  exact h
@[simp] theorem w_least {s : List Nat} {g n : Nat} {Q : D → Nat → Prop} : gLeast (gnd s g) n Q = Q (.int (g : Nat)) n := by
  refine propext ⟨?_, fun h => ⟨s, g, rfl, h⟩⟩
  rintro ⟨t, k, e, h⟩
  obtain ⟨rfl, rfl⟩ := gnd_inj e
  exact h
@[simp] theorem w_span {s : List Nat} {g n : Nat} {Q : D → Nat → Prop} : gSpan (gnd s g) n Q = Q (.int (2 * (g : Int) - 2)) n := by
  refine propext ⟨?_, fun h => ⟨s, g, rfl, h⟩⟩
  rintro ⟨t, k, e, h⟩
  obtain ⟨rfl, rfl⟩ := gnd_inj e
  exact h
def gIsG (d : D) (n : Nat) (Q : D → Nat → Prop) : Prop := (∃ (s : List Nat) (g : Nat), d = gnd s g ∧ Q (.bl true) n) ∨ ((∃ T, tyNm d = some T) ∧ hasTy d = true ∧ Q (.bl false) n)
@[simp] theorem w_isG1 {s : List Nat} {g n : Nat} {Q : D → Nat → Prop} : gIsG (gnd s g) n Q = Q (.bl true) n := by
  refine propext ⟨?_, fun h => .inl ⟨s, g, rfl, h⟩⟩
  rintro (⟨t, k, e, h⟩ | ⟨_, h, _⟩)
  · exact h
  · cases h
end
end DL
namespace DL
open PySem PySem.Spec PyProof.Rows L2
/-- what may be a ground's: signs and a gap -/
structure OkG (s : List Nat) (g : Nat) : Prop where
  ok : OkS s
  low : ∀ c ∈ s, 97 ≤ c ∧ c ≤ 122
  two : 2 ≤ s.length
  inc : s.Pairwise (· < ·)
  gap : 2 ≤ g
end DL
namespace DL
open PySem PySem.Spec PyProof.Rows L2
theorem sub_len {α : Type} : ∀ {xs ys : List α}, xs.Nodup → (∀ x ∈ xs, x ∈ ys) → xs.length ≤ ys.length
  | [], _, _, _ => Nat.zero_le _
  | x :: xs, ys, hn, hs => by
    obtain ⟨a, b, rfl⟩ := List.append_of_mem (hs x (List.mem_cons_self ..))
    rw [List.nodup_cons] at hn
    have ih := sub_len (xs := xs) (ys := a ++ b) hn.2 fun y hy => by
      have h1 := hs y (List.mem_cons_of_mem _ hy)
      rcases List.mem_append.mp h1 with h1 | h1
      · exact List.mem_append_left _ h1
      · rcases List.mem_cons.mp h1 with rfl | h1
        · exact absurd hy hn.1
        · exact List.mem_append_right _ h1
    simp only [List.length_append, List.length_cons] at ih ⊢
    omega
theorem valV_in {κ' : Type} [DecidableEq κ'] {kvs : List (κ' × V)} {k : κ'} (h : k ∈ kvs.map (·.1)) : ∃ v, valV kvs k = some v := by
  cases e : valV kvs k with
  | some v => exact ⟨v, rfl⟩
  | none => exact absurd h (valV_not e)
section
variable {κ : Kit} {X : Cx} {C : Addr} {cv : CV} {a b c e : Expr} {es : List Expr} {fa fb f : FE} {far fo : FA} {pos p p2 : Pos} {st : Stmt} {s1 : FS}
theorem KnJ.len (hG : HasGnd κ C cv) {s : List Nat} {g : Nat} {P : Wd} {kvs : List (Key × V)} (hn : (kvs.map (·.1)).Nodup) (h : ∀ k v, valV kvs k = some v → ∃ d, cv s g k = some d ∧ Rep (kitN κ.K) P.fz P.iv v d) : kvs.length ≤ 3 := by
  have := sub_len (ys := ckeys) hn fun k hk => by
    obtain ⟨v, hv⟩ := valV_in hk
    obtain ⟨d, hd, _⟩ := h k v hv
    exact hG.ck s g k d hd
  rw [List.length_map] at this
  exact Nat.le_trans this (by decide)
/-- noted under a name, told as a new list -/
@[simp] def sOwn (i : Nat) (key : Str) (cv : CV) (s1 : FS) (fo : FA) : FS := fun D env n => ∃ (s : List Nat) (g : Nat) (W : List (List Nat)), env[i]? = some (some (.val (gnd s g))) ∧ cv s g (.inr key) = some (.lst (W.map DL.D.str)) ∧ D.rt (.own (W.map DL.D.str)) n ∧
  s1 { nx := fun e m => e[i]? = some (some (.val (gnd s g))) ∧ fo (hide e) m fun xs k => xs = W.map DL.D.str ∧ D.rt (.own (W.map DL.D.str)) k, rt := fun _ _ => False } env n
end
end DL
namespace DL
open PySem L2
/-- _law_words_of(signs, size), slots 0 signs 1 size 2 found 3 spin 4 longer 5 word 6 sign -/
def cm__law_words_of : FS := (sSeq (sAsg 2 (fFrz (oLst (aCons (fC (.str [])) aNil)))) (sSeq (sFor (iRange1 (aCons (fVar 1) aNil)) (nN 3) (sSeq (sAsg 4 (fFrz (oLst aNil))) (sSeq (sFor (iSeqN 2) (nN 5) (sAsg 4 (f2 gAdd3 (fVar 4) (fFrz (oComp (iSeq (fFrz (oCl oList (aCons (fVar 0) aNil)))) (gN 6) tYesD (f2 gAdd3 (fVar 5) (fVar 6)) [6]))))) (sAsg 2 (fVar 4))))) (sRet (fVar 2))))
end DL
namespace DL
open PySem L2
theorem mod0 (a b : Nat) : ((a : Int) % (b : Int) = 0) = (a % b = 0) := by
  rw [eq_iff_iff]; omega
def wordsOf (S : List Nat) : Nat → List (List Nat)
  | 0 => [[]]
  | k + 1 => (wordsOf S k).flatMap fun w => S.map fun c => w ++ [c]
theorem wordsOf_len (S : List Nat) : ∀ k, (wordsOf S k).length = S.length ^ k
  | 0 => by simp [wordsOf]
  | k + 1 => by
    have hs : ∀ L : List (List Nat), (L.map fun _ => S.length).sum = L.length * S.length := fun L => by
      induction L with
      | nil => simp
      | cons a L ih => rw [List.map_cons, List.sum_cons, ih, List.length_cons, Nat.succ_mul]; omega
    rw [wordsOf, List.length_flatMap]
    simp only [List.length_map]
    rw [hs, wordsOf_len S k, Nat.pow_succ]
theorem wordsOf_mem {S : List Nat} : ∀ {k : Nat} {w : List Nat}, w ∈ wordsOf S k → w.length = k ∧ ∀ c ∈ w, c ∈ S
  | 0, w, h => by simp [wordsOf] at h; subst h; simp
  | k + 1, w, h => by
    rw [wordsOf, List.mem_flatMap] at h
    obtain ⟨u, hu, hw⟩ := h
    obtain ⟨c, hc, rfl⟩ := List.mem_map.mp hw
    have := wordsOf_mem hu
    refine ⟨by simp [this.1], fun d hd => ?_⟩
    rcases List.mem_append.mp hd with hd | hd
    · exact this.2 d hd
    · simp at hd; subst hd; exact hc
theorem wordsOf_le {S : List Nat} {k j : Nat} (h0 : S ≠ []) (h : S.length ^ k ≤ 1000000) (hj : j ≤ k) : (wordsOf S j).length ≤ 1000000 := by
  rw [wordsOf_len]
  exact Nat.le_trans (Nat.pow_le_pow_right (List.length_pos_iff.mpr h0) hj) h
def F_words_of : FC := fun ds n Q => ∃ (S : List Nat) (k : Nat), ds = [.str S, .int k] ∧ S ≠ [] ∧ S.length ^ k ≤ 1000000 ∧ k ≤ 10000 ∧ Q (.val (.lst ((wordsOf S k).map D.str))) n
def F__law_words_of : FC := F_words_of
theorem law__law_words_of : ∀ ds n Q, F__law_words_of ds n Q → ds.length = 2 → cm__law_words_of { nx := fun _ m => Q (.val .non) m, rt := Q } (startE 5 ds) n := by
  rintro ds n Q ⟨S, k, rfl, hS0, hS, hk, h⟩ _
  have hb : ∀ j ≤ k, (wordsOf S j).length ≤ 1000000 := fun j hj => wordsOf_le hS0 hS hj
  unfold cm__law_words_of
  refine sSeq_of fun next0 hn0 => ?_
  simp
  refine ⟨by decide, hn0 _ _ ?_⟩
  refine sSeq_of fun next1 hn1 => ?_
  simp
  refine ⟨by omega, ?_⟩
  rw [ups_eq]
  refine forD_inv (fun pre env m => (∃ x3 x4 x5 x6, env = [some (.val (.str S)), some (.val (.int k)), some (.val (.lst ((wordsOf S pre.length).map D.str))), x3, x4, x5, x6]) ∧ m = n) ?_ ?_ ⟨⟨_, _, _, _, rfl⟩, rfl⟩
  · rintro pre a post env m next hx ⟨⟨x3, x4, x5, x6, rfl⟩, rfl⟩ hn
    have hr := range_pre hx
    simp
    refine sSeq_of fun next2 hn2 => ?_
    simp
    refine hn2 _ _ ?_
    refine sSeq_of fun next3 hn3 => ?_
    simp
    refine forD_inv (fun pr env m' => (∃ x5 x6, env = [some (.val (.str S)), some (.val (.int k)), some (.val (.lst ((wordsOf S pre.length).map D.str))), some (.val (.int (a : Nat))), some (.val (.lst ((pr.flatMap fun w => S.map fun c => w ++ [c]).map D.str))), x5, x6]) ∧ m' = m) ?_ ?_ ⟨⟨_, _, rfl⟩, rfl⟩
    · rintro pr w po env m' next4 hx4 ⟨⟨x5, x6, rfl⟩, rfl⟩ hn4
      have hw : w ∈ wordsOf S pre.length := by rw [hx4]; simp
      have hwl := (wordsOf_mem hw).1
      simp
      refine goD_map (fun c : Nat => D.str (w ++ [c])) (fun c hc j K hK => ?_) ?_
      · simp [stepD]
        refine ⟨by omega, hK⟩
      · have hle : (pr.flatMap fun w => S.map fun c => w ++ [c]).length + S.length ≤ (wordsOf S (pre.length + 1)).length := by
          rw [wordsOf, hx4, List.flatMap_append, List.flatMap_cons, List.length_append, List.length_append]
          simp
        have := hb (pre.length + 1) (by omega)
        refine ⟨by simpa using (by simp at hle ⊢; omega), hn4 _ _ ⟨⟨some (.val (.str w)), x6, ?_⟩, rfl⟩⟩
        simp [List.flatMap_append]
    · rintro env m' ⟨⟨x5, x6, rfl⟩, rfl⟩
      refine hn3 _ _ ?_
      simp
      refine hn _ _ ⟨⟨some (.val (.int (a : Nat))), some (.val (.lst ((wordsOf S (pre.length + 1)).map D.str))), x5, x6, ?_⟩, rfl⟩
      rw [List.length_append]
      rfl
  · rintro env m ⟨⟨x3, x4, x5, x6, rfl⟩, rfl⟩
    refine hn1 _ _ ?_
    simpa using h
end DL
namespace DL
open PySem L2
theorem Letters.okG {s : List Nat} {g : Nat} (h : Letters s.length s) (h2 : 2 ≤ s.length) (hg : 2 ≤ g) : OkG s g := by
  have hl := low_iff.mp h.low
  have hs : sizeLine = 16777216 := PySem.sizeLine_eq
  have hn : s.length ≤ 26 := by
    have := nodup_le (h.inc.imp (fun h => Nat.ne_of_lt h)) fun x hx => show x ∈ ABC from by
      have := hl x hx
      have h3 : ∀ c, c ≤ 122 → 97 ≤ c → c ∈ ABC := by decide
      exact h3 x this.2 this.1
    exact this
  exact ⟨⟨by omega, fun c hc => by have := hl c hc; omega⟩, hl, h2, h.inc, hg⟩
theorem OkG.len {s : List Nat} {g : Nat} (h : OkG s g) : s.length ≤ 26 :=
  nodup_le (h.inc.imp (fun h => Nat.ne_of_lt h)) fun x hx => show x ∈ ABC from by
    have := h.low x hx
    have h3 : ∀ c, c ≤ 122 → 97 ≤ c → c ∈ ABC := by decide
    exact h3 x this.2 this.1
def reps (w : List Nat) (g : Nat) : Bool := (upto (min g w.length)).any (isPer w)
def ownW (s : List Nat) (g : Nat) : List (List Nat) := (wordsOf s (2 * g - 2)).filter fun w => !reps w g
/-- few words -/
structure Few (s : List Nat) (g : Nat) : Prop where
  ok : OkG s g
  few : s.length ^ (2 * g - 2) ≤ 1000000
  gap : g ≤ 1000
theorem Few.ne {s : List Nat} {g : Nat} (h : Few s g) : s ≠ [] := fun e => by have := h.ok.two; rw [e] at this; simp at this
end DL
namespace DL
open PySem L2
theorem Gnd.few {most : Int} {s : List Nat} {g : Nat} (h : Gnd most s g) : Few s g := by
  have h2 := h.two
  refine ⟨h.let_.okG h2.1 h2.2.2.1, ?_, by omega⟩
  have h3 : s.length ^ (2 * g - 2) ≤ 5 ^ (2 * g - 2) := Nat.pow_le_pow_left h2.2.1 _
  have h4 : 5 ^ (2 * g - 2) ≤ 5 ^ 6 := Nat.pow_le_pow_right (by decide) (by omega)
  have h5 : 5 ^ 6 ≤ 1000000 := by decide
  omega
end DL
namespace DL
open PySem PySem.Spec PyProof.Rows L2
section
variable {κ : Kit} {X : Cx} {a b c e : Expr} {es : List Expr} {fa fb f : FE} {far : FA} {pos p p2 : Pos} {G H : Hp} {iv : IV} {σ : L2.St} {env : SEnv} {H0 : Hp} {P : Wd} {te : TE}
/-- x.clear() -/
@[simp] def sClr (i : Nat) : FS := fun D env n => ∃ xs, env[i]? = some (some (.own xs)) ∧ D.nx (env.set i (some (.own []))) n
/-- x.extend(e), e a list -/
@[simp] def sExt (i : Nat) (f : FE) : FS := fun D env n => ∃ xs, env[i]? = some (some (.own xs)) ∧ f (hide env) n fun d m => ∃ ys, d = .lst ys ∧ xs.length + ys.length ≤ 16777216 ∧ D.nx (env.set i (some (.own (xs ++ ys)))) m
/-- x.insert(k, e) -/
@[simp] def sIns (i : Nat) (f1 f : FE) : FS := fun D env n => ∃ xs, env[i]? = some (some (.own xs)) ∧ f1 (view env) n fun d1 m => treeD d1 = true ∧ f (hide env) m fun d m2 => ∃ k : Nat, d1 = .int k ∧ k ≤ 16777216 ∧ xs.length < 16777216 ∧ D.nx (env.set i (some (.own (xs.take k ++ [d] ++ xs.drop k)))) m2
end
end DL
namespace DL
open PySem PySem.Spec PyProof.Rows L2
section
variable {κ : Kit} {X : Cx} {a b c e tg : Expr} {es : List Expr} {fa fb f fk : FE} {far : FA} {t1 : FT} {pos p p2 : Pos}
def goDc (tg : FG) (tt : FT) (tk te : FE) (env : DEnv) : List D → List D → List D → Nat → (D → Nat → Prop) → Prop
  | [], ks, vs, n, Q => Q (.dct ks vs) n
  | x :: xs, ks, vs, n, Q => tg x env fun env' => tt env' n fun b n1 => if b = true then tk env' n1 fun k n2 => isKeyD k = true ∧ te env' n2 fun v n3 => goDc tg tt tk te env xs (putKs ks k) (putVs ks vs k v) n3 Q else goDc tg tt tk te env xs ks vs n1 Q
@[simp] def fDc (it : FA) (tg : FG) (tt : FT) (tk te : FE) (vs : List Nat) : FE := fun env n Q => it env n fun xs n1 => goDc tg tt tk te (wipeE env vs) xs [] [] n1 Q
end
end DL
namespace DL
open PySem PySem.Spec PyProof.Rows L2
end DL
namespace DL
open PySem PySem.Spec PyProof.Rows L2
/-- a pair not behind another -/
def pairLe (p q : Int × Int) : Prop := p.1 < q.1 ∨ p.1 = q.1 ∧ p.2 ≤ q.2
abbrev PP (ps : List (Int × Int)) : List D := ps.map fun p => .tup [.int p.1, .int p.2]
end DL
namespace DL
open PySem PySem.Spec PyProof.Rows L2
end DL
namespace DL
open PySem PySem.Spec PyProof.Rows L2
/-- a range held: an object under the invariant of kind 5 -/
abbrev rngD (i j : Int) : D := .box 5 [.int i, .int j]
section
variable {κ : Kit} {X : Cx} {a b c e tg : Expr} {es : List Expr} {fa fb f fk : FE} {far : FA} {t1 : FT} {pos p p2 : Pos} {x : Str}
/-- a walk over a name that holds a range -/
@[simp] def iRngN (i : Nat) : FA := fun env n Q => ∃ lo hi : Int, env[i]? = some (some (rngD lo hi)) ∧ (hi - lo ≤ 16777216 ∧ -2305843009213693952 < lo ∧ lo < 2305843009213693952 ∧ -2305843009213693952 < hi) ∧ Q (ups lo (hi - lo).toNat) n
end
end DL
namespace DL
open PySem PySem.Spec PyProof.Rows L2
/-- a if c else b, both new lists -/
@[simp] def oIf (t : FT) (fa fb : FA) : FA := fun env n Q => t env n fun c m => if c = true then fa env m Q else fb env m Q
end DL
namespace DL
open PySem PySem.Spec PyProof.Rows L2 LamX
end DL
namespace DL
open PySem PySem.Spec PyProof.Rows L2 LamX
/-- the keys of some items, one behind the other -/
def keysD (i : Nat) (fk : FE) : List D → DEnv → Nat → (List D → Nat → Prop) → Prop
  | [], _, n, Q => Q [] n
  | x :: xs, env, n, Q => fk (env.set i (some x)) n fun d m => keysD i fk xs env m fun ds k => Q (d :: ds) k
end DL
namespace DL
open PySem PySem.Spec PyProof.Rows L2 LamX
section
variable {κ : Kit} {X : Cx} {pins : List (Addr × Obj)} {σ : L2.St} {H : Hp} {s : Shared} {A : Around} {scope : Scope} {f c' D kS : Addr} {a : Str} {i k e1 : Nat} {env : DEnv} {fk : FE} {params : Arguments} {body : Expr} {pm ctv : Value}
  {P0 : Wd} {G0 H0 : Hp} {itemsV : List V} {items : List Value} {xs : List DL.D} {P : Wd} {G : Hp}
/-- the keys' reading, the items in their order behind it -/
def keyOrd (i : Nat) (fk : FE) (xs : List DL.D) (env : DEnv) (n : Nat) (Q : List DL.D → Nat → Prop) : Prop := keysD i fk xs env n fun ks m => ∃ ps : List (Int × Int), ks = PP ps ∧ ∀ qs : List ((Int × Int) × DL.D), qs.Perm (ps.zip xs) → qs.Pairwise (fun p q => pairLe p.1 q.1) → Q (qs.map (·.2)) m
end
end DL
namespace DL
open PySem PySem.Spec PyProof.Rows L2 LamX
/-- a table of code objects that bear the name q -/
def TabJ (q : Str) (W : Wd) (o : HO) : Prop := ∃ ps : Array Value, o = .tbl ps ∧ TriplesOk ps.toList ∧ ∀ (p : Pos) (cv : Value), codeAmong p ps.toList = some cv → ∃ c, cv = .ref c ∧ W.fz c = some (CodeO c q)
theorem TabJ.mono {q : Str} {W W' : Wd} {o : HO} (h : TabJ q W o) (hf : ∀ a u, W.fz a = some u → W'.fz a = some u) : TabJ q W' o := by
  obtain ⟨ps, h1, h2, h3⟩ := h
  refine ⟨ps, h1, h2, fun p cv e => ?_⟩
  obtain ⟨c, e1, e2⟩ := h3 p cv e
  exact ⟨c, e1, hf _ _ e2⟩
section
variable {κ : Kit} {X : Cx} {pins : List (Addr × Obj)} {σ : L2.St} {H : Hp} {s : Shared} {A : Around} {scope : Scope} {f c' D kS c T : Addr} {a : Str} {i k e1 : Nat} {env : DEnv} {fk fd : FE} {params : Arguments} {body e : Expr} {pm ctv : Value}
  {P0 : Wd} {G0 H0 : Hp} {itemsV : List V} {items : List Value} {xs : List DL.D} {P : Wd} {G : Hp} {v : V} {u : Value} {d : DL.D}
/-- what a walk over it gives at once -/
def itemsD : DL.D → Option (List DL.D)
  | .lst xs => some xs
  | .dct ks _ => some ks
  | _ => none
/-- sorted(e, key=lambda x: (.., ..)) -/
@[simp] def oSortK (i : Nat) (fd fk : FE) : FA := fun env n Q => fd env n fun d m => ∃ xs, itemsD d = some xs ∧ keyOrd i fk xs env m Q
end
end DL
namespace DL
open PySem PySem.Spec PyProof.Rows L2
end DL
namespace DL
open PySem PySem.Spec PyProof.Rows L2 LamX
end DL
namespace DL
open PySem L2
end DL
namespace DL
open PySem L2
theorem dGet_map {α : Type} {kf vf : α → D} : ∀ {xs : List α}, (xs.map kf).Nodup → ∀ {a : α}, a ∈ xs → dGet (xs.map kf) (xs.map vf) (kf a) = some (vf a)
  | [], _, a, h => nomatch h
  | x :: xs, hnd, a, h => by
    simp only [List.map_cons, List.nodup_cons] at hnd
    simp only [List.map_cons, dGet]
    rcases List.mem_cons.mp h with rfl | h
    · rw [if_pos rfl]
    · rw [if_neg (fun e => hnd.1 (by rw [e]; exact List.mem_map.mpr ⟨a, h, rfl⟩)), dGet_map hnd.2 h]
instance (p q : Int × Int) : Decidable (pairLe p q) := by unfold pairLe; infer_instance
end DL
namespace K04
open PySem L2 DL
/-- one behind the other: a size, what is left of all words of this size -/
def psiN (s : Nat) (acc : List (Nat × Int)) (k : Nat) : Int := (s : Int) ^ k - ((acc.filter fun p => k % p.1 == 0).map (·.2)).sum
def psiL (s : Nat) : Nat → List (Nat × Int)
  | 0 => []
  | k + 1 => psiL s k ++ [(k + 1, psiN s (psiL s k) (k + 1))]
def psi (s k : Nat) : Int := psiN s (psiL s (k - 1)) k
end K04
namespace DL
open PySem L2
abbrev psi := K04.psi
/-- how many own windows, by numbers -/
def cntF (k g : Nat) : Int := (k : Int) ^ (2 * g - 2) - ((upto g).map (psi k)).sum
theorem map_inj_on {f : Nat → Nat} {S : List Nat} (hf : ∀ a ∈ S, ∀ b ∈ S, f a = f b → a = b) : ∀ {u v : List Nat}, (∀ c ∈ u, c ∈ S) → (∀ c ∈ v, c ∈ S) → (u.map f = v.map f ↔ u = v)
  | [], [], _, _ => by simp
  | [], _ :: _, _, _ => by simp
  | _ :: _, [], _, _ => by simp
  | a :: u, b :: v, hu, hv => by
    have ih := map_inj_on hf (u := u) (v := v) (fun c h => hu c (List.mem_cons_of_mem _ h)) fun c h => hv c (List.mem_cons_of_mem _ h)
    rw [List.map_cons, List.map_cons, List.cons.injEq, List.cons.injEq, ih]
    refine and_congr_left fun _ => ⟨hf a (hu a (by simp)) b (hv b (by simp)), fun e => by rw [e]⟩
theorem per_map {f : Nat → Nat} {S w : List Nat} {p : Nat} (hf : ∀ a ∈ S, ∀ b ∈ S, f a = f b → a = b) (hw : ∀ c ∈ w, c ∈ S) : isPer (w.map f) p = isPer w p := by
  unfold isPer
  rw [List.length_map, ← List.map_drop, ← List.map_take]
  congr 1
  rw [Bool.eq_iff_iff, beq_iff_eq, beq_iff_eq]
  exact map_inj_on hf (fun c h => hw c (List.mem_of_mem_drop h)) fun c h => hw c (List.mem_of_mem_take h)
theorem reps_map {f : Nat → Nat} {S w : List Nat} {g : Nat} (hf : ∀ a ∈ S, ∀ b ∈ S, f a = f b → a = b) (hw : ∀ c ∈ w, c ∈ S) : reps (w.map f) g = reps w g := by
  unfold reps
  rw [List.length_map]
  congr 1
  funext p
  exact per_map hf hw
theorem words_map (f : Nat → Nat) (S : List Nat) : ∀ k, wordsOf (S.map f) k = (wordsOf S k).map (List.map f)
  | 0 => rfl
  | k + 1 => by
    rw [wordsOf, wordsOf, words_map f S k]
    simp [List.flatMap_map, List.map_flatMap, Function.comp_def]
theorem own_map {f : Nat → Nat} {S : List Nat} {g : Nat} (hf : ∀ a ∈ S, ∀ b ∈ S, f a = f b → a = b) : (ownW (S.map f) g).length = (ownW S g).length := by
  unfold ownW
  rw [words_map, List.filter_map, List.length_map]
  congr 1
  refine List.filter_congr fun w hw => ?_
  simp only [Function.comp]
  rw [reps_map hf (wordsOf_mem hw).2]
theorem own_len {s : List Nat} {g : Nat} (hn : s.Nodup) : (ownW s g).length = (ownW (List.range s.length) g).length := by
  have e : s = (List.range s.length).map fun i => s.getD i 0 := by
    refine List.ext_getElem (by simp) fun i h1 h2 => ?_
    simp [h1]
  have := own_map (f := fun i => s.getD i 0) (S := List.range s.length) (g := g) fun a ha b hb h => by
    have ha := List.mem_range.mp ha
    have hb := List.mem_range.mp hb
    simp only [List.getD_eq_getElem?_getD, List.getElem?_eq_getElem ha, List.getElem?_eq_getElem hb, Option.getD_some] at h
    exact (List.getElem_inj hn).mp h
  rw [← e] at this
  exact this
def grounds : List (Nat × Nat) := [(2, 2), (3, 2), (2, 3), (4, 2), (5, 2), (2, 4), (3, 3), (10, 2), (2, 5), (2, 6), (6, 2), (7, 2), (8, 2), (9, 2)]
theorem cnt_ok : ∀ q ∈ grounds, (((ownW (List.range q.1) q.2).length : Nat) : Int) = cntF q.1 q.2 := by decide +kernel
theorem grounds_ok : ∀ q ∈ grounds, 2 ≤ q.1 ∧ q.1 ≤ 10 ∧ 2 ≤ q.2 ∧ q.2 ≤ 6 ∧ q.1 ^ (2 * q.2 - 2) ≤ 1000000 := by decide +kernel
/-- a ground that is small enough to be counted -/
structure Small (s : List Nat) (g : Nat) : Prop where
  l : Letters s.length s
  g_ : (s.length, g) ∈ grounds
theorem Small.few {s : List Nat} {g : Nat} (h : Small s g) : Few s g := by
  have := grounds_ok _ h.g_
  simp only at this
  exact ⟨h.l.okG (by omega) (by omega), this.2.2.2.2, by omega⟩
theorem Small.cnt {s : List Nat} {g : Nat} (h : Small s g) : cntF s.length g = ((ownW s g).length : Nat) := by
  have := cnt_ok _ h.g_
  simp only at this
  rw [← this, own_len (h.l.inc.imp fun h => Nat.ne_of_lt h)]
end DL
namespace DL
open PySem L2
/-- a ground and a text of it, of sizes that are reckoned with -/
structure GT (s : List Nat) (g : Nat) (t : List Nat) : Prop where
  ok : OkG s g
  gap : g ≤ 1000
  tx : ∀ c ∈ t, c ∈ s
  len : t.length ≤ 100000
theorem GT.ne {s t : List Nat} {g : Nat} (h : GT s g t) : s ≠ [] := fun e => by have := h.ok.two; rw [e] at this; simp at this
end DL
namespace DL
open PySem L2 PyProof.Rows
/-- an order of a ground that can be counted -/
structure Ord (s : List Nat) (g : Nat) (o : List (List Nat)) : Prop where
  sm : Small s g
  per : o.Perm (ownW s g)
theorem own_few {s : List Nat} {g : Nat} (h : Few s g) : (ownW s g).length ≤ 1000000 := Nat.le_trans (List.length_filter_le ..) (wordsOf_le h.ne h.few (Nat.le_refl _))
theorem Ord.len {s : List Nat} {g : Nat} {o : List (List Nat)} (h : Ord s g o) : o.length ≤ 1000000 := by rw [h.per.length_eq]; exact own_few h.sm.few
theorem Small.gap {s : List Nat} {g : Nat} (h : Small s g) : 2 ≤ g ∧ g ≤ 6 ∧ 2 ≤ s.length ∧ s.length ≤ 10 := by
  have := grounds_ok _ h.g_
  simp only at this
  omega
end DL
namespace DL
open PySem PySem.Spec L2 PyProof.Rows
def rk (o : List (List Nat)) (w : List Nat) : Int := (o.idxOf w : Nat)
theorem atI_I {l : List Nat} {i : Nat} (h : i < l.length) : atI (I l) (i : Int) = some (.int (l.getD i 0 : Nat)) := by
  refine atI_nat' ?_
  rw [List.getElem?_map, List.getElem?_eq_getElem h, List.getD_eq_getElem?_getD, List.getElem?_eq_getElem h]
  rfl
end DL
namespace DL
open PySem PySem.Spec L2 PyProof.Rows
end DL
namespace DL
open PySem PySem.Spec L2 PyProof.Rows
theorem GT.pos {s t : List Nat} {g : Nat} (h : GT s g t) : 0 < g := by have := h.ok.gap; omega
/-- all but the first and the last sign -/
def mid (w : List Nat) : List Nat := cutL w (some 1) (some (-1))
def isLong (g : Nat) (w : List Nat) : Bool := decide (2 * g ≤ w.length) && reps (mid w) g
end DL
namespace DL
open PySem PySem.Spec L2 PyProof.Rows
end DL
namespace DL
open PySem PySem.Spec L2 PyProof.Rows
end DL
namespace DL
open PySem PySem.Spec L2 PyProof.Rows
/-- the least number that has it -/
theorem least_of {P : Nat → Prop} : ∀ n, P n → ∃ m, m ≤ n ∧ P m ∧ ∀ j < m, ¬ P j := by
  intro n
  induction n using Nat.strongRecOn with
  | ind n ih =>
    intro h
    by_cases hc : ∃ j, j < n ∧ P j
    · obtain ⟨j, hj, hp⟩ := hc
      obtain ⟨m, h1, h2, h3⟩ := ih j hj hp
      exact ⟨m, by omega, h2, h3⟩
    · exact ⟨n, Nat.le_refl _, h, fun j hj hp => hc ⟨j, hj, hp⟩⟩
end DL
namespace DL
open PySem PySem.Spec L2 PyProof.Rows
end DL
namespace DL
open PySem L2
/-- the first L things have a period -/
def PerF {α : Type} (f : Nat → α) (L p : Nat) : Prop := ∀ i, i + p < L → f i = f (i + p)
theorem PerF.mul {α : Type} {f : Nat → α} {L p : Nat} (h : PerF f L p) : ∀ (k i : Nat), i + k * p < L → f i = f (i + k * p)
  | 0, i, _ => by simp
  | k + 1, i, hi => by
    rw [Nat.succ_mul] at hi ⊢
    rw [PerF.mul h k i (by omega), h (i + k * p) (by omega), Nat.add_assoc]
theorem PerF.cong {α : Type} {f : Nat → α} {L p : Nat} (h : PerF f L p) {i j : Nat} (hi : i < L) (hj : j < L) (hm : i % p = j % p) : f i = f j := by
  have key : ∀ a b, a ≤ b → b < L → a % p = b % p → f a = f b := fun a b hab hb he => by
    have hd : p ∣ b - a := Nat.dvd_of_mod_eq_zero (Nat.sub_mod_eq_zero_of_mod_eq he.symm)
    obtain ⟨k, hk⟩ := hd
    have : b = a + k * p := by rw [Nat.mul_comm] at hk; omega
    rw [this]
    exact h.mul k a (by omega)
  rcases Nat.le_total i j with hij | hij
  · exact key i j hij hj hm
  · exact (key j i hij hi hm.symm).symm
theorem PerF.sub {α : Type} {f : Nat → α} {L p q : Nat} (h : PerF f L p) (h2 : PerF f L q) (hq : p ≤ q) : PerF f (L - p) (q - p) := fun i hi => by
  have e1 := h2 i (by omega)
  have e2 := h (i + (q - p)) (by omega)
  rw [e1, e2]
  congr 1; omega
theorem PerF.less {α : Type} {f : Nat → α} {L M p : Nat} (h : PerF f L p) (hM : M ≤ L) : PerF f M p := fun i hi => h i (by omega)
/-- the theorem of Fine and Wilf -/
theorem fine_wilf {α : Type} {f : Nat → α} : ∀ (n L p q : Nat), p + q ≤ n → 1 ≤ p → 1 ≤ q → PerF f L p → PerF f L q → p + q ≤ L + Nat.gcd p q → PerF f L (Nat.gcd p q)
  | 0, L, p, q, hn, hp, hq, _, _, _ => by omega
  | n + 1, L, p, q, hn, hp, hq, h1, h2, hL => by
    have main : ∀ p q, p < q → p + q ≤ n + 1 → 1 ≤ p → PerF f L p → PerF f L q → p + q ≤ L + Nat.gcd p q → PerF f L (Nat.gcd p q) := by
      intro p q hpq hn hp h1 h2 hL
      have eg : Nat.gcd p (q - p) = Nat.gcd p q := Nat.gcd_sub_self_right (by omega)
      have hd1 : Nat.gcd p q ∣ p := Nat.gcd_dvd_left p q
      have hd2 : Nat.gcd p q ∣ q := Nat.gcd_dvd_right p q
      have hgp : 1 ≤ Nat.gcd p q := Nat.gcd_pos_of_pos_left _ hp
      have hd3 : Nat.gcd p q ∣ q - p := Nat.dvd_sub hd2 hd1
      have hle : Nat.gcd p q ≤ q - p := Nat.le_of_dvd (by omega) hd3
      have ih := fine_wilf n (L - p) p (q - p) (by omega) hp (by omega) (h1.less (by omega)) (h1.sub h2 (by omega)) (by rw [eg]; omega)
      rw [eg] at ih
      have hpl : p ≤ L - p := by omega
      generalize Nat.gcd p q = d at *
      intro i hi
      by_cases c1 : i + d < L - p
      · exact ih i c1
      · have e1 : f (i + d - p) = f (i + d) := by
          have := h1 (i + d - p) (by omega)
          rw [this]; congr 1; omega
        obtain ⟨k, hk⟩ := hd1
        by_cases c2 : p ≤ i
        · have e2 : f (i - p) = f i := by
            have := h1 (i - p) (by omega)
            rw [this]; congr 1; omega
          rw [← e1, ← e2]
          have := ih (i - p) (by omega)
          rw [this]; congr 1; omega
        · rw [← e1]
          refine ih.cong (by omega) (by omega) ?_
          have : i + d = (i + d - p) + k * d := by rw [Nat.mul_comm k d]; omega
          have h3 : (i + d) % d = (i + d - p) % d := by rw [this, Nat.add_mul_mod_self_right]; congr 1; omega
          rw [Nat.add_mod_right] at h3; exact h3
    rcases Nat.lt_trichotomy p q with h | h | h
    · exact main p q h hn hp h1 h2 hL
    · subst h; rw [Nat.gcd_self]; exact h1
    · rw [Nat.gcd_comm]; exact main q p h (by omega) hq h2 h1 (by rw [Nat.gcd_comm]; omega)
end DL
namespace DL
open PySem PySem.Spec PyProof.Rows L2
/-- a slot's data without lists within -/
def treeSl : Sl → Bool
  | .val d => treeD d | .own xs => xs.all treeD | .ownd _ vs => vs.all treeD | .tre _ => false
@[simp] theorem treeSl_val (d : D) : treeSl (.val d) = treeD d := rfl
@[simp] theorem treeSl_own (d : List D) : treeSl (.own d) = d.all treeD := rfl
@[simp] theorem treeSl_ownd (d e : List D) : treeSl (.ownd d e) = e.all treeD := rfl
section
variable {κ : Kit} {X : Cx} {H0 : Hp} {P : Wd} {G H : Hp} {σ : L2.St} {env : SEnv} {a b c e tg iter elt : Expr} {st : Stmt} {fa fb f : FE} {fo far : FA} {t1 : FT} {te : TE} {ta : TA} {pos p p2 : Pos} {es ifs : List Expr} {fx : FX} {fxs : FXs}
theorem SlR.tree {P' : Wd} {G' H' Hb : Hp} (ev : SEnvR κ H0 P G H σ env) (gr : Grow P (lent env σ G H) H P' G' H') {v : V} {s : Sl} (r : SlR κ Hb P' G' H' v s) (h : treeSl s = true) : SlR κ Hb P' (back env σ G') H' v s := by
  have hb : ∀ a, G' a = none → back env σ G' a = none := fun a e => by unfold back; split <;> first | rfl | exact e
  cases s with
  | val d => exact Rep.tree ev gr (priv_iv ev gr) r h
  | own xs =>
    obtain ⟨a, e, vs, h1, h2, h3, h4, h5, h6⟩ := r
    exact ⟨a, e, vs, h1, h2, h3, hb a h4, h5, h6.tree ev gr (priv_iv ev gr) (by rw [treeDs_all]; exact h)⟩
  | ownd ks vs =>
    obtain ⟨a, e, kk, us, h1, hl, hz, hn, hk, h3, h4, h5, h6⟩ := r
    exact ⟨a, e, kk, us, h1, hl, hz, hn, hk, h3, hb a h4, h5, h6.tree ev gr (priv_iv ev gr) (by rw [treeDs_all]; exact h)⟩
  | tre t => cases h
theorem SlRs.tree {P' : Wd} {G' H' Hb : Hp} (ev : SEnvR κ H0 P G H σ env) (gr : Grow P (lent env σ G H) H P' G' H') : ∀ {vs : List V} {ss : List Sl}, SlRs κ Hb P' G' H' vs ss → ss.all treeSl = true → SlRs κ Hb P' (back env σ G') H' vs ss
  | [], [], _, _ => trivial
  | [], _ :: _, r, _ => r.elim
  | _ :: _, [], r, _ => r.elim
  | _ :: _, _ :: _, r, h => by
    simp only [List.all_cons, Bool.and_eq_true] at h
    exact ⟨r.1.tree ev gr h.1, r.2.1, SlRs.tree ev gr r.2.2 h.2⟩
/-- several names at once, own lists looked at -/
@[simp] def sParV (is : List Nat) (f : FXs) : FS := fun D env n => f (view env) n fun ss m => ss.all treeSl = true ∧ ss.length = is.length ∧ D.nx (setS is ss env) m
/-- a new list, own lists looked at, a value at once -/
@[simp] def sAsgFV (i : Nat) (f : FA) : FS := fun D env n => f (view env) n fun xs m => xs.all treeD = true ∧ D.nx (env.set i (some (.val (.lst xs)))) m
theorem asgFV_lift {i : Nat} (h : RdO κ fo te) : RdS κ (sAsgFV i fo) (tAsg te (gName i)) := fun P0 G0 H0 P G H σ env D E gr g ev hf ok =>
  at_viewO h g ev (fun a ha => gr.back ha) hf fun a P' G' H' xs gr' g' ev' ha o q => by
    obtain ⟨vs, h1, h2, h3, h4, h5, h6⟩ := o
    have gf : Grow P G H P' (upd G' a (.lst vs)) H' := gr'.frz ha h4
    exact ok.nx P' (upd G' a (.lst vs)) H' _ _ (gr.trans gf) (g'.frz h4 h5 h1) ((ev.grow gf).set (.lst upd_same h2 (reps_frz h4 h6))) q
section
variable {i : Nat} {y : Str} {py : Pos} {scope : Scope} {spos : Pos} {sl : List Nat} {φ : FG}
theorem S_lcVF (i : Nat) (own : List (Str × Nat)) (hN : X.N.Nodup) (hi : DI κ X tg iter far)
    (hg : ∀ (s : Shared) (H : Hp) (C : Addr) (cl : List (Str × Addr)) (fp : List Addr), DG κ (X.blk s H scope (compEnvC scope cl C X.env) fp) tg sl φ)
    (ht : ∀ (s : Shared) (H : Hp) (C : Addr) (cl : List (Str × Addr)) (fp : List Addr), DTs κ (X.blk s H scope (compEnvC scope cl C X.env) fp) ifs t1)
    (he : ∀ (s : Shared) (H : Hp) (C : Addr) (cl : List (Str × Addr)) (fp : List Addr), DE κ (X.blk s H scope (compEnvC scope cl C X.env) fp) elt f)
    (hy : X.N[i]? = some y := by rfl) (hyl : X.env.scope.names.lookup y = some .local := by rfl) (hc : X.calm = true := by rfl)
    (hsw : swapsWith (.ListComp elt [⟨tg, iter, ifs, 0⟩] scope pos) (some (.Name y py)) spos.line X.env = pure true := by exact sw_true rfl rfl rfl (by decide +kernel)) (ok : blkC X.N X.env.scope scope own = true := by rfl)
    (hsl : ∀ i ∈ sl, i ∈ own.map (·.2) := by decide) (hs : ∀ x, foldedSetIterable iter X.env x = pure x := by intro _; rfl) :
    D1 κ X (.Assign [.Name y py] (.ListComp elt [⟨tg, iter, ifs, 0⟩] scope pos) spos) (sAsgFV i (oComp far φ t1 f (own.map (·.2)))) := by
  obtain ⟨w, pw, qw⟩ := hi
  exact ⟨_, PS.lk (ps_setLc hc hN hy hyl hsw pw (blkOk_by ok) (fun s H C cl fp => (hg s H C cl fp).can) (fun s H C cl fp => (ht s H C cl fp).can) (fun s H C cl fp => (he s H C cl fp).can) hs), asgFV_lift (lc_lift qw rd_tG rd_tT rd_tE hsl)⟩
end
/-- a, b = e, e looks at own lists -/
@[simp] def sUnpV (φ : SG) (f : FE) : FS := fun D env n => f (view env) n fun d m => treeD d = true ∧ φ d env fun env' => D.nx env' m
/-- a call as a statement, own lists looked at -/
@[simp] def sDropV (f : FE) : FS := fun D env n => f (view env) n fun d m => treeD d = true ∧ D.nx env m
/-- a number's text -/
def txtI (i : Int) : List Nat := (Str.ofString (toString i)).cps.toList
def gStr (ds : List D) (n : Nat) (Q : D → Nat → Prop) : Prop := match ds with
  | [.int i] => i.natAbs.log2 < 1920 ∧ Q (.str (txtI i)) n
  | [.str s] => Q (.str s) n
  | _ => False
@[simp] theorem w_str1 {i : Int} {n : Nat} {Q : D → Nat → Prop} : gStr [.int i] n Q = (i.natAbs.log2 < 1920 ∧ Q (.str (txtI i)) n) := rfl
@[simp] theorem w_str2 {s : List Nat} {n : Nat} {Q : D → Nat → Prop} : gStr [.str s] n Q = Q (.str s) n := rfl
def gUpper (x : D) (n : Nat) (Q : D → Nat → Prop) : Prop := match x with
  | .str s => (s.length ≤ 5592405 ∧ ∀ c ∈ s, c < 128) ∧ Q (.str (s.map PyProof.Rows.up1)) n
  | _ => False
@[simp] theorem w_upper {s : List Nat} {n : Nat} {Q : D → Nat → Prop} : gUpper (.str s) n Q = ((s.length ≤ 5592405 ∧ ∀ c ∈ s, c < 128) ∧ Q (.str (s.map PyProof.Rows.up1)) n) := rfl
theorem up1_lt {c : Nat} (h : c < 128) : PyProof.Rows.up1 c < 128 := by unfold PyProof.Rows.up1; split <;> omega
theorem e_upper {o : Expr} {apos : Pos} (ho : DE κ X o fa) (hbase : attributeBase o "upper" X.env (eval o X.env) = eval o X.env := by rfl) (hline : (apos.endLine == pos.line) = true := by rfl) :
    DE κ X (.Call (.Attribute o "upper" apos) [] [] pos) (f1 gUpper fa) := by
  obtain ⟨ta, pa, qa⟩ := ho
  refine ⟨_, pe_upper pa hbase hline, fun P G H σ env Q R g ev hf hR => qa P G H σ env _ _ g ev hf fun v P' G' H' d gr g' r hq => ?_⟩
  cases r <;> try (exact False.elim hq)
  rename_i s hs
  obtain ⟨⟨h1, h2⟩, hq⟩ := hq
  have e : Txt.upper ⟨s.toArray⟩ = ⟨(s.map PyProof.Rows.up1).toArray⟩ := by rw [PyProof.Rows.upper_ascii (x := ⟨s.toArray⟩) (by simpa using h2)]; simp
  refine ⟨⟨_, rfl⟩, _, rfl, rfl, by rw [str_len]; exact h1, ?_⟩
  rw [e]
  refine hR _ P' G' H' _ gr g' (.str ⟨by rw [List.length_map]; exact hs.1, fun c hc => ?_⟩) hq
  obtain ⟨d, hd, rfl⟩ := List.mem_map.mp hc
  have := up1_lt (h2 d hd)
  omega
end
end DL
namespace DL
open PySem L2
end DL
namespace DL
open PySem PySem.Spec L2 PyProof.Rows
inductive Told where
  | one (w : List Nat) | five (h : Nat) (tu : List Nat) (k : Int) (r : List Nat) (t : Nat)
def Told.word : Told → List Nat
  | .one w => w
  | .five h tu k r t => [h] ++ (List.replicate k.toNat tu).flatten ++ r ++ [t]
def Told.size : Told → Int
  | .one w => w.length
  | .five h tu k r t => ([1, (tu.length : Int), ((txtI k).length : Int), (r.length : Int), 1] : List Int).sum
/-- what is short or long -/
def SoL (g : Nat) (w : List Nat) : Prop := 2 * g ≤ w.length → isLong g w = true
theorem SoL.reps {g : Nat} {w : List Nat} (h : SoL g w) (hl : ¬ w.length < 2 * g) : DL.reps (mid w) g = true := by
  have := h (by omega)
  unfold isLong at this
  simp at this
  exact this.2
end DL
namespace DL
open PySem PySem.Spec L2 PyProof.Rows
@[simp] theorem atI_4 {α : Type} (x y z w v : α) (xs : List α) : atI (x :: y :: z :: w :: v :: xs) 4 = some v := atI_nat' (i := 4) rfl
theorem s_line : sizeLine = 16777216 := PySem.sizeLine_eq
/-- a told word whose text may be written -/
def Told.Few : Told → Prop
  | .one w => w.length ≤ 100000
  | .five _ tu k r _ => 0 ≤ k ∧ k ≤ 100000 ∧ tu.length * k.toNat ≤ 100000 ∧ r.length ≤ 100000
theorem Told.Few.len {t : Told} (h : t.Few) : t.word.length ≤ 200002 := by
  cases t with
  | one w => exact Nat.le_trans h (by decide)
  | five hd tu k r u =>
    obtain ⟨h1, h2, h3, h4⟩ := h
    have : ((List.replicate k.toNat tu).flatten).length ≤ 100000 := by rw [rep_len, Nat.mul_comm]; exact h3
    simp [Told.word] at this ⊢
    omega
/-- how many figures a told word's number may have -/
def Told.Str : Told → Prop
  | .one _ => True
  | .five _ _ k _ _ => k.natAbs.log2 < 1920
end DL
namespace DL
open PySem L2
theorem step_le {m m1 m3 c d k : Nat} (h : m ≤ m1 + c * k) (h2 : m3 ≤ m + d) (hd : d ≤ c) : m3 ≤ m1 + c * (k + 1) := by rw [Nat.mul_add]; omega
end DL
namespace DL
open PySem PySem.Spec PyProof.Rows L2
section
variable {κ : Kit} {X : Cx} {a b : Expr} {fa fb : FE} {pos : Pos}
theorem op_isBl : OpR X (compareOp .Is) (fun x y H Q => ∃ a b, x = .bl a ∧ y = .bl b ∧ Q (.bl (decide (a = b))) H) := by
  intro pins s σ H x y v u Q I rx ry h
  obtain ⟨a, b, rfl, rfl, q⟩ := h
  cases rx
  cases ry
  exact wpAny_is_plain rfl (fin_bl I q (by cases a <;> cases b <;> rfl))
def gIsB (x y : D) (n : Nat) (Q : D → Nat → Prop) : Prop := ∃ a b, x = .bl a ∧ y = .bl b ∧ Q (.bl (decide (a = b))) n
@[simp] theorem w_isB {a b : Bool} {n : Nat} {Q : D → Nat → Prop} : gIsB (.bl a) (.bl b) n Q = Q (.bl (decide (a = b))) n := by
  refine propext ⟨?_, fun h => ⟨a, b, rfl, rfl, h⟩⟩
  rintro ⟨c, d, e1, e2, h⟩
  cases e1; cases e2
  exact h
theorem cr_isB : CR κ X .Is gIsB := by
  refine ⟨_, ?_, op_isBl⟩
  intro P G H x y dx dy Q R g rx ry hf hR
  obtain ⟨a, b, e1, e2, hf⟩ := hf
  subst e1 e2
  cases rx; cases ry
  exact ⟨a, b, rfl, rfl, hR _ P G H _ .refl g .bl hf⟩
theorem e_isB (ha : DE κ X a fa) (hb : DE κ X b fb) : DE κ X (.Compare a [.Is] [b] pos) (f2 gIsB fa fb) := CR.de (cr_isB) ha hb (nomark _)
end
end DL
namespace DL
open PySem PySem.Spec PyProof.Rows L2
def gMaxV (x : D) (n : Nat) (Q : D → Nat → Prop) : Prop := ∃ (ks : List D) (is : List Int), x = .dct ks (is.map D.int) ∧ is ≠ [] ∧ ∀ m, m ∈ is → (∀ j ∈ is, j ≤ m) → Q (.int m) n
@[simp] def fMaxV (f : FE) : FE := fun env n Q => f env n fun x m => gMaxV x m Q
@[simp] def iValsD (f : FE) : FA := fun env n Q => f env n fun x m => ∃ ks vs, x = .dct ks vs ∧ Q vs m
section
variable {κ : Kit} {X : Cx} {o tg : Expr} {f : FE} {p pos apos mpos cpos : Pos}
@[simp] def iValsN (i : Nat) : FA := fun env n Q => ∃ ks vs, env[i]? = some (some (.dct ks vs)) ∧ Q vs n
end
end DL
namespace SrtO
open PySem PyProof.Rows Srt
def IsPairS (h : Heap) (v : Value) (x y : PySem.Str) : Prop := ∃ a o t u n, v = .ref a ∧ h.get? a = some o ∧ o.cls = .type "tuple" ∧ o.data = .seq #[.str x t, .str y u] n
theorem IsPairS.keeps {h h' : Heap} {v : Value} {x y : PySem.Str} (p : IsPairS h v x y) (k : ∀ b o, h.get? b = some o → o.cls = .type "tuple" → h'.get? b = some o) : IsPairS h' v x y := by
  obtain ⟨a, o, t, u, n, e, ho, hc, hd⟩ := p
  exact ⟨a, o, t, u, n, e, k _ _ ho hc, hc, hd⟩
end SrtO
namespace L2
open PySem PySem.Spec PyProof.Rows
end L2
namespace DL
open PySem PySem.Spec PyProof.Rows L2
end DL
namespace DL
open PySem PySem.Spec PyProof.Rows L2
def OT.kids : OT → List OT
  | .lst _ ts => ts | .tup _ ts => ts | .dct _ _ ts => ts | .dcu _ _ ts => ts | .leaf _ => []
def OT.at : List Nat → OT → Option OT
  | [], t => some t
  | k :: p, t => match t.kids[k]? with
    | some u => OT.at p u
    | none => none
def OT.put : List Nat → OT → OT → OT
  | [], _, u => u
  | k :: p, .lst a ts, u => .lst a (ts.modify k fun t => OT.put p t u)
  | k :: p, .tup a ts, u => .tup a (ts.modify k fun t => OT.put p t u)
  | k :: p, .dct a ks ts, u => .dct a ks (ts.modify k fun t => OT.put p t u)
  | k :: p, .dcu a ks ts, u => .dcu a ks (ts.modify k fun t => OT.put p t u)
  | _ :: _, .leaf d, _ => .leaf d
@[simp] theorem ot_at_nil (t : OT) : OT.at [] t = some t := rfl
@[simp] theorem ot_put_nil (t u : OT) : OT.put [] t u = u := rfl
@[simp] theorem ot_put_lst (k : Nat) (p : List Nat) (a : Addr) (ts : List OT) (u : OT) : OT.put (k :: p) (.lst a ts) u = .lst a (ts.modify k fun t => OT.put p t u) := rfl
@[simp] theorem ot_put_tup (k : Nat) (p : List Nat) (a : Addr) (ts : List OT) (u : OT) : OT.put (k :: p) (.tup a ts) u = .tup a (ts.modify k fun t => OT.put p t u) := rfl
end DL
namespace DL
open PySem PySem.Spec PyProof.Rows L2
def leaves (xs : List D) : List OT := xs.map OT.leaf
@[simp] theorem leaves_nil : leaves [] = [] := rfl
@[simp] theorem views_leaves : ∀ xs : List D, OT.views (leaves xs) = xs
  | [] => by rw [leaves, List.map_nil, OT.views]
  | x :: xs => by
    have := views_leaves xs
    rw [leaves] at this ⊢
    rw [List.map_cons, OT.views, this, OT.view]
@[simp] theorem leaves_len (xs : List D) : (leaves xs).length = xs.length := List.length_map ..
theorem owns_leaves : ∀ xs : List D, OT.owns (leaves xs) = []
  | [] => by rw [leaves, List.map_nil, OT.owns]
  | x :: xs => by
    have := owns_leaves xs
    rw [leaves] at this ⊢
    rw [List.map_cons, OT.owns, this, OT.own]; rfl
theorem reps_leaves {κ : Kit} {G H : Hp} {iv : IV} : ∀ {vs : List V} {xs : List D}, Reps κ G iv vs xs → OT.reps κ G iv H (leaves xs) vs
  | _, _, .nil => by rw [leaves, List.map_nil, OT.reps]
  | _, _, .cons r t => by
    have := reps_leaves (H := H) t
    rw [leaves] at this ⊢
    rw [List.map_cons, OT.reps]
    exact ⟨_, _, rfl, by rw [OT.rep]; exact r, this⟩
/-- a slot's data as a tree, its list at this address -/
@[simp] def toT (a : Addr) : Sl → OT
  | .val d => .leaf d | .own xs => .lst a (leaves xs) | .ownd ks vs => .dct a ks (leaves vs) | .tre t => t
@[simp] def zipT : List Addr → List Sl → List OT
  | a :: as, s :: ss => toT a s :: zipT as ss
  | _, _ => []
section
variable {κ : Kit} {X : Cx} {H0 : Hp} {P : Wd} {G H : Hp} {σ : L2.St} {env : SEnv} {a b c e o : Expr} {es : List Expr} {fa fb f : FE} {fx : FX} {fxs : FXs} {pos p p2 : Pos} {te : TE}
/-- [e1, e2, ..] as a tree -/
@[simp] def xLst (fxs : FXs) : FX := fun env n Q => fxs env n fun ss m => ss.length ≤ 16777216 ∧ ∀ (p : Addr) (as : List Addr), as.length = ss.length → Q (.tre (.lst p (zipT as ss))) m
/-- (e1, e2, ..), lists of its own in it -/
@[simp] def xTup (fxs : FXs) : FX := fun env n Q => fxs env n fun ss m => ss.length ≤ 16777216 ∧ ss.any (fun s => match s with | .val _ => false | .tre t => t.mut | _ => true) = true ∧ ∀ (p : Addr) (as : List Addr), as.length = ss.length → Q (.tre (.tup p (zipT as ss))) m
theorem at_hideX {Q : Sl → Nat → Prop} {R : VK} (h : RdX κ fx te) (g : Good κ P G H) (ev : SEnvR κ H0 P G H σ env) (h0 : ∀ a, H a = none → H0 a = none) (hf : fx (hide env) P.n Q)
    (hR : ∀ v s P' G' H', Grow P G H P' G' H' → Good κ P' G' H' → SEnvR κ H0 P' G' H' σ env → SlR κ H0 P' G' H' v s → (∀ a, Holds s v a → ¬ Priv env σ a ∧ H a = none) → Q s P'.n → R v H') : te σ H R :=
  h P G H σ _ Q R g ev.hide hf fun v s P' G' H' gr g' r q => hR v s P' G' H' gr g' (ev.grow gr) (r.base h0) (fun a ha => by
    obtain ⟨q1, _⟩ := r.held ha
    exact ⟨fun hp => (by obtain ⟨_, _, _, o, ho⟩ := ev.priv hp; rw [q1] at ho; cases ho), q1⟩) q
/-- x = e, whatever e tells -/
@[simp] def sAsgX (i : Nat) (fx : FX) : FS := fun D env n => fx (hide env) n fun s m => D.nx (env.set i (some s)) m
theorem S_asgX (i : Nat) {x : Str} (hN : X.N.Nodup) (h : DX κ X e fx) (hi : X.N[i]? = some x := by rfl) (hx : Loc X.env.scope x := by first | exact Or.inl rfl | exact Or.inr rfl) (hs : swapsWith e (some (.Name x p2)) pos.line X.env = pure false := by rfl) (hfn : X.fn x = true ∨ X.env.scope.names.lookup x = some .local := by first | exact Or.inl rfl | exact Or.inr rfl) : D1 κ X (.Assign [.Name x p2] e pos) (sAsgX i fx) := by
  obtain ⟨t, p, q⟩ := h
  exact ⟨_, ps_set hN hi hx p hs hfn, fun P0 G0 H0 P G H σ env D E gr g ev hf ok =>
    at_hideX q g ev (fun a ha => gr.back ha) hf fun v s P' G' H' gr' g' ev' r hp q => ok.nx P' G' H' _ _ (gr.trans gr') g' (ev'.setX r fun a ha => (hp a ha).1) q⟩
/-- return e, whatever e tells -/
@[simp] def sRetX (fx : FX) : FS := fun D env n => fx (hide env) n fun s m => D.rt s m
/-- what a subscript says, without a step -/
abbrev FI := SEnv → Int → Prop
@[simp] def iC (z : Int) : FI := fun _ y => y = z
@[simp] def iV (j : Nat) : FI := fun env z => env[j]? = some (some (.val (.int z)))
/-- the place that subscripts lead to -/
@[simp] def ResT (env : SEnv) : List FI → OT → List Nat → OT → Prop
  | [], T, p, T' => p = [] ∧ T' = T
  | g :: gs, T, p, T' => ∃ z k U p', g env z ∧ (∃ a, (T = .lst a T.kids ∨ T = .tup a T.kids)) ∧ ixN T.kids.length z = some k ∧ T.kids[k]? = some U ∧ p = k :: p' ∧ ResT env gs U p' T'
/-- x[..]..append(e) -/
@[simp] def sTApp (i : Nat) (gs : List FI) (fx : FX) : FS := fun D env n => ∃ T q b ts, env[i]? = some (some (.tre T)) ∧ ResT env gs T q (.lst b ts) ∧ fx (hide env) n fun s m => ts.length < 16777216 ∧ ∀ a, D.nx (env.set i (some (.tre (OT.put q T (.lst b (ts ++ [toT a s])))))) m
/-- x[..]..clear() -/
@[simp] def sTClr (i : Nat) (gs : List FI) : FS := fun D env n => ∃ T q b ts, env[i]? = some (some (.tre T)) ∧ ResT env gs T q (.lst b ts) ∧ D.nx (env.set i (some (.tre (OT.put q T (.lst b []))))) n
end
end DL
namespace DL
open PySem PySem.Spec PyProof.Rows L2
/-- a dict's keys and values behind an update -/
@[simp] def updD : List D → List D → List D → List D → List D × List D
  | ks, vs, k :: kr, v :: vr => updD (putKs ks k) (putVs ks vs k v) kr vr
  | ks, vs, _, _ => (ks, vs)
section
variable {κ : Kit} {X : Cx} {H0 : Hp} {P : Wd} {G H : Hp} {σ : L2.St} {env : SEnv} {e : Expr} {f : FE} {pos p2 : Pos}
/-- x.update(e) -/
@[simp] def sUpd (i : Nat) (f : FE) : FS := fun D env n => ∃ ks vs, env[i]? = some (some (.ownd ks vs)) ∧ f (view env) n fun d m => ∃ mk mv, d = .dct mk mv ∧ mv.all treeD = true ∧ mk ≠ ks ∧ ks.length + mk.length ≤ 16777216 ∧ D.nx (env.set i (some (.ownd (updD ks vs mk mv).1 (updD ks vs mk mv).2))) m
end
end DL
namespace DL
open PySem PySem.Spec PyProof.Rows L2
/-- list(x): also a dict's keys -/
def oListA (ds : List D) (n : Nat) (Q : List D → Nat → Prop) : Prop := match ds with
  | [.str s] => Q (s.map fun c => .str [c]) n
  | [.lst xs] => Q xs n
  | [.tup xs] => Q xs n
  | [.dct ks _] => Q ks n
  | _ => False
@[simp] theorem w_lista1 {s : List Nat} {n : Nat} {Q : List D → Nat → Prop} : oListA [.str s] n Q = Q (s.map fun c => .str [c]) n := rfl
@[simp] theorem w_lista2 {xs : List D} {n : Nat} {Q : List D → Nat → Prop} : oListA [.lst xs] n Q = Q xs n := rfl
@[simp] theorem w_lista3 {xs : List D} {n : Nat} {Q : List D → Nat → Prop} : oListA [.tup xs] n Q = Q xs n := rfl
@[simp] theorem w_lista4 {xs ys : List D} {n : Nat} {Q : List D → Nat → Prop} : oListA [.dct xs ys] n Q = Q xs n := rfl
end DL
namespace DL
open PySem PySem.Spec PyProof.Rows L2
/-- x in y, y a list of plain data -/
def gInP (x y : D) (n : Nat) (Q : D → Nat → Prop) : Prop := match y with
  | .lst ys => (plain 63 x = true ∧ plains 63 ys = true) ∧ Q (.bl (ys.any fun z => eqD z x)) n
  | _ => False
def gNotInP (x y : D) (n : Nat) (Q : D → Nat → Prop) : Prop := match y with
  | .lst ys => (plain 63 x = true ∧ plains 63 ys = true) ∧ Q (.bl (!ys.any fun z => eqD z x)) n
  | _ => False
@[simp] theorem w_inp {x : D} {ys : List D} {n : Nat} {Q : D → Nat → Prop} : gInP x (.lst ys) n Q = ((plain 63 x = true ∧ plains 63 ys = true) ∧ Q (.bl (ys.any fun z => eqD z x)) n) := rfl
@[simp] theorem w_notinp {x : D} {ys : List D} {n : Nat} {Q : D → Nat → Prop} : gNotInP x (.lst ys) n Q = ((plain 63 x = true ∧ plains 63 ys = true) ∧ Q (.bl (!ys.any fun z => eqD z x)) n) := rfl
theorem any_eqv (k : Nat) (x : D) (hx : plain k x = true) : ∀ ys : List D, plains k ys = true → ((toPys ys).any fun z => PyData.eqv z (toPy x)) = ys.any fun z => eqD z x
  | [], _ => by simp [toPys]
  | y :: ys, h => by
    simp only [plains, Bool.and_eq_true] at h
    rw [toPys, List.any_cons, List.any_cons, any_eqv k x hx ys h.2, eqv_toPy k k y x h.1 hx]
section
variable {κ : Kit} {X : Cx} {a b : Expr} {fa fb : FE} {pos : Pos} {k : Nat}
theorem cr_notInP (hu : X.A.units + 65 < cLine) : CR κ X .NotIn gNotInP := by
  refine ⟨_, ?_, L2.op_notInD hu⟩
  intro P G H x y dx dy Q R g rx ry hf hR
  unfold gNotInP at hf
  split at hf
  · rename_i ys
    have hp : plain 64 (.lst ys) = true := by rw [plain]; exact hf.1.2
    obtain ⟨x1, x2, x3⟩ := Rep.dp (K := X.K) 63 rx hf.1.1
    obtain ⟨y1, y2, y3⟩ := Rep.dp (K := X.K) 64 ry hp
    have e : toPy (.lst ys) = .list (toPys ys) := by rw [toPy]
    rw [e] at y1 y2 y3
    refine ⟨_, _, Dp.mono g.gh x1, Dp.mono g.gh y1, shaped_of x2 (by omega), shaped_of y2 y3, ?_⟩
    rw [any_eqv 63 dx hf.1.1 ys hf.1.2]
    exact hR _ P G H _ .refl g .bl hf.2
  · exact hf.elim
theorem un65 (hr : Room k X.A) : X.A.units + 65 < cLine := by have := hr.un; omega
theorem t_notInP (hr : Room k X.A) (ha : DE κ X a fa) (hb : DE κ X b fb) (hm : behindInMarks .NotIn b = false := by rfl) : DT κ X (.Compare a [.NotIn] [b] pos) (tVal (f2 gNotInP fa fb)) := CR.dt (cr_notInP (un65 hr)) ha hb hm
end
end DL
namespace DL
open PySem PySem.Spec PyProof.Rows L2
section
variable {κ : Kit} {X : Cx} {a : Expr} {fa : FE} {pos p : Pos}
/-- range(j), held -/
def gRngV1 (ds : List D) (n : Nat) (Q : D → Nat → Prop) : Prop := ∃ j : Int, ds = [.int j] ∧ Q (rngD 0 j) n
@[simp] theorem w_rngV1 {j : Int} {n : Nat} {Q : D → Nat → Prop} : gRngV1 [.int j] n Q = Q (rngD 0 j) n := by simp [gRngV1]
end
section
variable {κ : Kit} {X : Cx} {C : Addr} {cv : CV} {a : Expr} {f : FE} {pos p p2 : Pos}
/-- isinstance(x, str), x data or a ground -/
def gIsSG (d : D) (n : Nat) (Q : D → Nat → Prop) : Prop := (∃ (s : List Nat) (g : Nat), d = gnd s g ∧ Q (.bl false) n) ∨ (hasTy d = true ∧ Q (.bl (isiD .str d)) n)
@[simp] theorem w_isSG1 {s : List Nat} {g n : Nat} {Q : D → Nat → Prop} : gIsSG (gnd s g) n Q = Q (.bl false) n := by
  refine propext ⟨?_, fun h => .inl ⟨s, g, rfl, h⟩⟩
  rintro (⟨t, k, e, h⟩ | ⟨h, _⟩)
  · exact h
  · cases h
@[simp] theorem w_isSG3 {t : List Nat} {n : Nat} {Q : D → Nat → Prop} : gIsSG (.str t) n Q = Q (.bl true) n := by
  refine propext ⟨?_, fun h => .inr ⟨rfl, h⟩⟩
  rintro (⟨t, k, e, h⟩ | ⟨_, h⟩)
  · cases e
  · exact h
end
def gNotB (x y : D) (n : Nat) (Q : D → Nat → Prop) : Prop := ∃ a b, x = .bl a ∧ y = .bl b ∧ Q (.bl (!decide (a = b))) n
@[simp] theorem w_notB {a b : Bool} {n : Nat} {Q : D → Nat → Prop} : gNotB (.bl a) (.bl b) n Q = Q (.bl (!decide (a = b))) n := by
  refine propext ⟨?_, fun h => ⟨a, b, rfl, rfl, h⟩⟩
  rintro ⟨_, _, e1, e2, h⟩
  cases e1
  cases e2
  exact h
end DL
namespace DL
open PySem PySem.Spec L2 PyProof.Rows
theorem sharp_lt : ∀ (n p q : Nat), p + q ≤ n → 1 ≤ p → p < q → ¬ p ∣ q → ∃ f : Nat → Nat, PerF f (p + q - Nat.gcd p q - 1) p ∧ PerF f (p + q - Nat.gcd p q - 1) q ∧ ¬ PerF f (p + q - Nat.gcd p q - 1) (Nat.gcd p q)
  | 0, p, q, h, h1, h2, _ => by omega
  | n + 1, p, q, h, h1, h2, h3 => by
    obtain ⟨r, rfl⟩ : ∃ r, q = p + r := ⟨q - p, by omega⟩
    have hr : 1 ≤ r := by omega
    have hg : Nat.gcd p (p + r) = Nat.gcd p r := by simp
    rw [hg]
    have h4 : ¬ p ∣ r := fun d => h3 ((Nat.dvd_add_right (Nat.dvd_refl p)).mpr d)
    have hg1 : 1 ≤ Nat.gcd p r := Nat.gcd_pos_of_pos_left _ (by omega)
    have hgp := Nat.gcd_dvd_left p r
    have hgr := Nat.gcd_dvd_right p r
    by_cases c : r ∣ p
    · have e : Nat.gcd p r = r := Nat.gcd_eq_right c
      rw [e]
      obtain ⟨m, hm⟩ := c
      have hm2 : 2 ≤ m := by
        rcases m with _ | _ | m
        · omega
        · exact absurd ⟨1, by omega⟩ h4
        · omega
      have hp2 : r * 2 ≤ p := by rw [hm]; exact Nat.mul_le_mul_left _ hm2
      refine ⟨fun i => if i % p = p - 1 then 1 else 0, fun i hi => ?_, fun i hi => ?_, fun hf => ?_⟩
      · simp
      · have e1 : i % p = i := Nat.mod_eq_of_lt (by omega)
        have e2 : (i + (p + r)) % p = i + r := by
          rw [show i + (p + r) = i + r + p by omega, Nat.add_mod_right]
          exact Nat.mod_eq_of_lt (by omega)
        simp only [e1, e2]
        rw [if_neg (by omega), if_neg (by omega)]
      · have := hf (p - 1 - r) (by omega)
        have e1 : (p - 1 - r) % p = p - 1 - r := Nat.mod_eq_of_lt (by omega)
        have e2 : (p - 1 - r + r) % p = p - 1 := by rw [show p - 1 - r + r = p - 1 by omega]; exact Nat.mod_eq_of_lt (by omega)
        simp only [e1, e2] at this
        rw [if_neg (by omega)] at this
        simp at this
    · have hrg : Nat.gcd p r + 1 ≤ r := by
        have := Nat.le_of_dvd (by omega) hgr
        have h5 : Nat.gcd p r ≠ r := fun e => c (by rw [← e]; exact hgp)
        omega
      obtain ⟨f, f1, f2, f3⟩ : ∃ f : Nat → Nat, PerF f (p + r - Nat.gcd p r - 1) p ∧ PerF f (p + r - Nat.gcd p r - 1) r ∧ ¬ PerF f (p + r - Nat.gcd p r - 1) (Nat.gcd p r) := by
        by_cases hlt : p < r
        · exact sharp_lt n p r (by omega) h1 hlt h4
        · have : p ≠ r := fun e => h4 (by rw [e]; exact Nat.dvd_refl _)
          obtain ⟨f, f1, f2, f3⟩ := sharp_lt n r p (by omega) hr (by omega) c
          rw [Nat.gcd_comm r p, show r + p = p + r by omega] at *
          exact ⟨f, f2, f1, f3⟩
      have ag : ∀ i, i < p + r - Nat.gcd p r - 1 → f (i % p) = f i := fun i hi => f1.cong (by have := Nat.mod_lt i (show 0 < p by omega); omega) hi (by simp)
      refine ⟨fun i => f (i % p), fun i hi => by simp, fun i hi => ?_, fun hf => f3 fun i hi => ?_⟩
      · have e2 : (i + (p + r)) % p = (i + r) % p := by rw [show i + (p + r) = i + r + p by omega, Nat.add_mod_right]
        simp only [e2]
        rw [ag i (by omega), ag (i + r) (by omega)]
        exact f2 i (by omega)
      · have := hf i (by omega)
        simp only at this
        rwa [ag i (by omega), ag _ hi] at this
theorem sharp (p q : Nat) (h1 : 1 ≤ p) (h2 : 1 ≤ q) (h3 : ¬ p ∣ q) (h4 : ¬ q ∣ p) : ∃ f : Nat → Nat, PerF f (p + q - Nat.gcd p q - 1) p ∧ PerF f (p + q - Nat.gcd p q - 1) q ∧ ¬ PerF f (p + q - Nat.gcd p q - 1) (Nat.gcd p q) := by
  by_cases c : p < q
  · exact sharp_lt _ p q (Nat.le_refl _) h1 c h3
  · have : p ≠ q := fun e => h3 (by rw [e]; exact Nat.dvd_refl _)
    obtain ⟨f, f1, f2, f3⟩ := sharp_lt _ q p (Nat.le_refl _) h2 (by omega) h4
    rw [Nat.gcd_comm q p, show q + p = p + q by omega] at *
    exact ⟨f, f2, f1, f3⟩
def Nb (L p q i j : Nat) : Prop := i < L ∧ j < L ∧ (j = i + p ∨ i = j + p ∨ j = i + q ∨ i = j + q)
theorem Nb.symm {L p q i j : Nat} (h : Nb L p q i j) : Nb L p q j i := ⟨h.2.1, h.1, by have := h.2.2; omega⟩
def Cl (L p q c : Nat) (xs : List Nat) : Prop := ∀ i j, Nb L p q i j → xs.getD i 0 ≤ c → xs.getD j 0 ≤ c
def Snd (L p q : Nat) (xs : List Nat) : Prop := ∀ i, i < L → xs.getD i 0 < L ∧ ∀ f : Nat → Nat, PerF f L p → PerF f L q → f (xs.getD i 0) = f i
theorem nb_f {L p q i j : Nat} (h : Nb L p q i j) {f : Nat → Nat} (h1 : PerF f L p) (h2 : PerF f L q) : f i = f j := by
  obtain ⟨hi, hj, e | e | e | e⟩ := h
  · rw [e]; exact h1 i (by omega)
  · rw [e]; exact (h1 j (by omega)).symm
  · rw [e]; exact h2 i (by omega)
  · rw [e]; exact (h2 j (by omega)).symm
structure Rnd (L p q k : Nat) (xs cur : List Nat) : Prop where
  len : cur.length = L
  le : ∀ i, i < L → cur.getD i 0 ≤ xs.getD i 0
  nb : ∀ i, i < k → ∀ j, Nb L p q i j → cur.getD i 0 ≤ xs.getD j 0
  cl : ∀ c, Cl L p q c xs → ∀ i, i < L → cur.getD i 0 ≤ c → xs.getD i 0 ≤ c
  snd : Snd L p q cur
theorem set_get {xs : List Nat} {k i m : Nat} (hk : k < xs.length) : (xs.set k m).getD i 0 = if i = k then m else xs.getD i 0 := by
  rw [List.getD_eq_getElem?_getD, List.getElem?_set, List.getD_eq_getElem?_getD]
  by_cases e : k = i
  · subst e; simp [hk]
  · have : ¬ i = k := fun h => e h.symm
    simp [e, this]
theorem Rnd.step {L p q k m : Nat} {xs cur : List Nat} (h : Rnd L p q k xs cur) (hk : k < L) (hm1 : m ≤ cur.getD k 0) (hm2 : ∀ j, Nb L p q k j → m ≤ cur.getD j 0) (hm3 : m = cur.getD k 0 ∨ ∃ j, Nb L p q k j ∧ m = cur.getD j 0) : Rnd L p q (k + 1) xs (cur.set k m) := by
  have hl := h.len
  have key : ∀ i, (cur.set k m).getD i 0 = if i = k then m else cur.getD i 0 := fun i => set_get (by omega)
  refine ⟨by rw [List.length_set]; exact hl, fun i hi => ?_, fun i hi j hj => ?_, fun c hc i hi hle => ?_, fun i hi => ?_⟩
  · rw [key]
    split
    · rename_i e; rw [e]; exact Nat.le_trans hm1 (h.le k hk)
    · exact h.le i hi
  · rw [key]
    split
    · rename_i e; subst e; exact Nat.le_trans (hm2 j hj) (h.le j hj.2.1)
    · exact h.nb i (by omega) j hj
  · rw [key] at hle
    split at hle
    · rename_i e; subst e
      rcases hm3 with e | ⟨j, hj, e⟩
      · exact h.cl c hc i hi (by omega)
      · exact hc j i hj.symm (h.cl c hc j hj.2.1 (by omega))
    · exact h.cl c hc i hi hle
  · rw [key]
    split
    · rename_i e; subst e
      rcases hm3 with e | ⟨j, hj, e⟩
      · rw [e]; exact h.snd i hi
      · rw [e]
        refine ⟨(h.snd j hj.2.1).1, fun f h1 h2 => ?_⟩
        rw [(h.snd j hj.2.1).2 f h1 h2, nb_f hj h1 h2]
    · exact h.snd i hi
theorem countP_more {α : Type} {P Q : α → Bool} : ∀ {l : List α}, (∀ a ∈ l, P a = true → Q a = true) → (∃ a ∈ l, Q a = true ∧ P a = false) → l.countP P + 1 ≤ l.countP Q
  | [], _, h => by obtain ⟨a, h, _⟩ := h; cases h
  | x :: l, hi, ⟨a, ha, hq, hp⟩ => by
    rw [List.countP_cons, List.countP_cons]
    rcases List.mem_cons.mp ha with rfl | ha
    · have : l.countP P ≤ l.countP Q := List.countP_mono_left fun b hb => hi b (List.mem_cons_of_mem _ hb)
      simp [hq, hp]; exact this
    · have := countP_more (fun b hb => hi b (List.mem_cons_of_mem _ hb)) ⟨a, ha, hq, hp⟩
      have h2 := hi x (List.mem_cons_self ..)
      cases hx : P x with
      | false => simp; omega
      | true => simp [h2 hx]; omega
def cnt (L c : Nat) (xs : List Nat) : Nat := (List.range L).countP fun i => decide (xs.getD i 0 ≤ c)
structure Out (L p q r : Nat) (xs : List Nat) : Prop where
  len : xs.length = L
  snd : Snd L p q xs
  cnt : ∀ c, Cl L p q c xs ∨ r + 1 ≤ cnt L c xs
theorem Out.start {L p q : Nat} : Out L p q 0 (List.range L) := by
  have hg : ∀ i, i < L → (List.range L).getD i 0 = i := fun i hi => by rw [List.getD_eq_getElem?_getD, List.getElem?_range hi]; rfl
  refine ⟨by simp, fun i hi => by rw [hg i hi]; exact ⟨hi, fun _ _ _ => rfl⟩, fun c => ?_⟩
  by_cases hL : 0 < L
  case neg => exact .inl fun i j hij => absurd hij.1 (by omega)
  refine .inr ?_
  have : (List.range L).countP (fun _ => false) + 1 ≤ DL.cnt L c (List.range L) := countP_more (fun _ _ h => nomatch h) ⟨0, List.mem_range.mpr hL, by rw [hg 0 hL]; simp, rfl⟩
  simpa using this
theorem Rnd.start {L p q : Nat} {xs : List Nat} (hl : xs.length = L) (h : Snd L p q xs) : Rnd L p q 0 xs xs := ⟨hl, fun _ _ => Nat.le_refl _, fun _ h => absurd h (by omega), fun _ _ _ _ h => h, h⟩
theorem Out.step {L p q r : Nat} {xs ys : List Nat} (h : Out L p q r xs) (h2 : Rnd L p q L xs ys) : Out L p q (r + 1) ys := by
  refine ⟨h2.len, h2.snd, fun c => ?_⟩
  by_cases hc : Cl L p q c xs
  · exact .inl fun i j hij hi => Nat.le_trans (h2.le j hij.2.1) (hc i j hij (h2.cl c hc i hij.1 hi))
  · have h3 : r + 1 ≤ DL.cnt L c xs := (h.cnt c).resolve_left hc
    have : ∃ i j, Nb L p q i j ∧ xs.getD i 0 ≤ c ∧ ¬ xs.getD j 0 ≤ c := by
      refine Classical.byContradiction fun hn => hc fun i j hij hi => ?_
      exact Classical.byContradiction fun hj => hn ⟨i, j, hij, hi, hj⟩
    obtain ⟨i, j, hij, hi, hj⟩ := this
    have := countP_more (l := List.range L) (P := fun i => decide (xs.getD i 0 ≤ c)) (Q := fun i => decide (ys.getD i 0 ≤ c)) (fun a ha hp => by
      have := h2.le a (List.mem_range.mp ha)
      simp only [decide_eq_true_eq] at hp ⊢
      omega) ⟨j, List.mem_range.mpr hij.2.1, by
        have := h2.nb j hij.2.1 i hij.symm
        simp only [decide_eq_true_eq]
        omega, by simpa using hj⟩
    refine .inr ?_
    unfold DL.cnt at h3 ⊢
    omega
theorem Out.fin {L p q : Nat} {xs : List Nat} (h : Out L p q L xs) {i j : Nat} (hij : Nb L p q i j) : xs.getD i 0 = xs.getD j 0 := by
  have cl : ∀ c, Cl L p q c xs := fun c => (h.cnt c).resolve_right fun h2 => by
    have : DL.cnt L c xs ≤ L := by
      have := List.countP_le_length (p := fun i => decide (xs.getD i 0 ≤ c)) (l := List.range L)
      rwa [List.length_range] at this
    omega
  exact Nat.le_antisymm (cl _ j i hij.symm (Nat.le_refl _)) (cl _ i j hij (Nat.le_refl _))
/-- what the links tell -/
structure Linked (L p q : Nat) (xs : List Nat) : Prop where
  len : xs.length = L
  snd : Snd L p q xs
  st : ∀ i j, Nb L p q i j → xs.getD i 0 = xs.getD j 0
/-- a word of two periods, and not of their divisor -/
structure TwoW (p q : Nat) (w : List Nat) : Prop where
  len : w.length = p + q - Nat.gcd p q - 1
  ab : ∀ c ∈ w, c = 97 ∨ c = 98
  one : PerF (fun i => w.getD i 0) w.length p
  two : PerF (fun i => w.getD i 0) w.length q
  not : ¬ PerF (fun i => w.getD i 0) w.length (Nat.gcd p q)
theorem linked_same {L p q : Nat} {xs : List Nat} (h : Linked L p q xs) {g : Nat} (hg : g = p ∨ g = q) {i : Nat} (hi : i + g < L) : xs.getD i 0 = xs.getD (i + g) 0 :=
  h.st i (i + g) ⟨by omega, hi, by rcases hg with rfl | rfl <;> omega⟩
theorem linked_far {p q : Nat} {xs : List Nat} (h1 : 1 ≤ p) (h2 : 1 ≤ q) (h : Linked (p + q - Nat.gcd p q - 1) p q xs) (n1 : Nat.gcd p q ≠ p) (n2 : Nat.gcd p q ≠ q) : ∃ i, i + Nat.gcd p q < p + q - Nat.gcd p q - 1 ∧ xs.getD i 0 ≠ xs.getD (i + Nat.gcd p q) 0 := by
  obtain ⟨f, f1, f2, f3⟩ := sharp p q h1 h2 (fun d => n1 (Nat.gcd_eq_left d)) (fun d => n2 (Nat.gcd_eq_right d))
  refine Classical.byContradiction fun hn => f3 fun i hi => ?_
  have e : xs.getD i 0 = xs.getD (i + Nat.gcd p q) 0 := Classical.byContradiction fun hne => hn ⟨i, hi, hne⟩
  rw [← (h.snd i (by omega)).2 f f1 f2, ← (h.snd (i + Nat.gcd p q) hi).2 f f1 f2, e]
theorem two_word {p q a0 : Nat} {xs : List Nat} (h : Linked (p + q - Nat.gcd p q - 1) p q xs) (ha : a0 + Nat.gcd p q < p + q - Nat.gcd p q - 1) (hne : xs.getD a0 0 ≠ xs.getD (a0 + Nat.gcd p q) 0) : TwoW p q (xs.map fun x => if x = xs.getD a0 0 then 97 else 98) := by
  have hl := h.len
  have hg : ∀ i, i < xs.length → (xs.map fun x => if x = xs.getD a0 0 then 97 else 98).getD i 0 = if xs.getD i 0 = xs.getD a0 0 then 97 else 98 := fun i hi => by
    rw [List.getD_eq_getElem?_getD, List.getElem?_map, List.getElem?_eq_getElem hi, List.getD_eq_getElem?_getD (l := xs) (i := i), List.getElem?_eq_getElem hi]; rfl
  refine ⟨by rw [List.length_map]; exact hl, fun c hc => ?_, fun i hi => ?_, fun i hi => ?_, fun hp => ?_⟩
  · obtain ⟨x, _, rfl⟩ := List.mem_map.mp hc
    split
    · exact .inl rfl
    · exact .inr rfl
  · rw [List.length_map] at hi
    show (List.map _ xs).getD i 0 = (List.map _ xs).getD (i + p) 0
    rw [hg i (by omega), hg _ hi, linked_same h (.inl rfl) (by omega)]
  · rw [List.length_map] at hi
    show (List.map _ xs).getD i 0 = (List.map _ xs).getD (i + q) 0
    rw [hg i (by omega), hg _ hi, linked_same h (.inr rfl) (by omega)]
  · have := hp a0 (by rw [List.length_map]; omega)
    have this : (List.map _ xs).getD a0 0 = (List.map _ xs).getD (a0 + Nat.gcd p q) 0 := this
    rw [hg a0 (by omega), hg _ (by omega), if_pos rfl, if_neg (fun e => hne e.symm)] at this
    cases this
end DL
namespace DL
open PySem PySem.Spec PyProof.Rows L2
section
variable {κ : Kit} {X : Cx} {pos : Pos} {x y : Str}
/-- return (x, y) -/
@[simp] def sRetM (i j : Nat) : FS := fun D env n => ∃ s t, env[i]? = some (some s) ∧ env[j]? = some (some t) ∧ [s, t].any (fun s => match s with | .val _ => false | .tre t => t.mut | _ => true) = true ∧ ∀ (p : Addr) (as : List Addr), as.length = 2 → D.rt (.tre (.tup p (zipT as [s, t]))) n
end
end DL
namespace DL
open PySem PySem.Spec PyProof.Rows L2
section
variable {prog : Program} {w : World} {A : Around} {E : Value → Shared → Prop} {s : Shared}
abbrev IsZp (h : Heap) (z TI TO : Addr) (f0 f1 : Value) : Prop :=
  h.get? z = some { cls := .type "zip", dict := none, data := .fields #[f0, f1, .bool false, .ref TI, .ref TO], slots := #[] }
/-- how a zip object stands that has told i pairs -/
structure ZSt (h : Heap) (z TI TO i1 i2 l1 l2 : Addr) (i : Nat) : Prop where
  zp : (i = 0 ∧ IsZp h z TI TO .none (.bool false)) ∨ ∃ (T : Addr) (o : Obj) (b : Bool), IsZp h z TI TO (rawInt T) (.bool b) ∧ h.get? T = some o ∧ T ≠ z ∧ T ≠ TO ∧ T ≠ i1 ∧ T ≠ i2
  ti : IsPair h TI (.ref i1) (.ref i2)
  to : ∃ a b, IsPair h TO a b
  a : h.IsListIter i1 l1 i
  b : h.IsListIter i2 l2 i
theorem ZSt.typeIs {z TI TO i1 i2 l1 l2 : Addr} {i : Nat} (h : ZSt s.heap z TI TO i1 i2 l1 l2 i) : s.TypeIs (.ref z) "zip" := by
  rcases h.zp with ⟨_, h⟩ | ⟨T, o, b, h, _⟩
  · exact ⟨_, h, rfl⟩
  · exact ⟨_, h, rfl⟩
end
end DL
namespace DL
open PySem PySem.Spec PyProof.Rows L2
section
variable {κ : Kit} {X : Cx} {a b : Expr} {far : FA} {pos p q1 q2 : Pos}
/-- list(zip(a, b)) -/
@[simp] def oListZ (far : FA) : FA := fun env n Q => far env n fun ds m => ∃ xs ys, ds = [.lst xs, .lst ys] ∧ Q (zipD xs ys) m
end
end DL
namespace DL
open PySem PySem.Spec PyProof.Rows L2
section
variable {κ : Kit} {X : Cx} {H0 : Hp} {P : Wd} {G H : Hp} {σ : L2.St} {env : SEnv} {a b e : Expr} {fa fb : FE} {pos : Pos}
/-- {} as a dict with tuple keys -/
@[simp] def xDctT : FX := fun _ n Q => ∀ a, Q (.tre (.dcu a [] [])) n
theorem dx_dctT {pd : Pos} : DX κ X (.Dict [] [] pd) xDctT := ⟨_, pe_dnewT, fun P G H σ env Q R g ev hf hR p hp => by
  have eo : (OT.dcu p [] []).own = [p] := by rw [OT.own, OT.owns]
  refine hR _ (.tre (.dcu p [] [])) P G _ (Grow.new hp) (g.new hp) ⟨?_, ?_, ?_⟩ (hf p)
  · rw [OT.rep]; exact ⟨rfl, [], [], upd_same, rfl, Nat.zero_le _, ⟨List.nodup_nil, fun _ h => nomatch h⟩, rfl, by rw [OT.reps]⟩
  · rw [eo]; simp
  · intro b hb
    rw [eo, List.mem_singleton] at hb
    subst hb; exact ⟨hp, g.gnone hp, g.inone hp⟩⟩
theorem tupD_inj {j k : List Key} (h : (D.tup (j.map keyD)) = .tup (k.map keyD)) : j = k := keyDs_inj (by simpa using h)
theorem putT_zip {k : List Key} {v : V} : ∀ {ks : List (List Key)} {us : List V}, ks.length = us.length → ks.Nodup →
    ∃ ks' us', putK (ks.zip us) k v = ks'.zip us' ∧ ks'.length = us'.length ∧ ((k ∈ ks ∧ ks' = ks) ∨ (k ∉ ks ∧ ks' = ks ++ [k])) ∧ (∀ {κ : Kit} {G : Hp} {iv : IV} {vs : List D} {d : D}, Reps κ G iv us vs → Rep κ G iv v d → Reps κ G iv us' (putVs (ks.map fun k => D.tup (k.map keyD)) vs (.tup (k.map keyD)) d)) := by
  intro ks us hl hn
  by_cases hk : k ∈ ks
  · refine ⟨ks, (ks.zip us).map (fun p => if p.1 = k then v else p.2), ?_, by simp [hl], .inl ⟨hk, rfl⟩, ?_⟩
    · unfold putK
      have h1 : (ks.zip us).any (fun kv => decide (kv.1 = k)) = true := by
        rw [List.any_eq_true]
        obtain ⟨i, hi, e⟩ := List.getElem_of_mem hk
        exact ⟨(ks[i], us[i]'(by omega)), by rw [List.mem_iff_getElem]; exact ⟨i, by simp; omega, by simp⟩, by simp [e]⟩
      rw [if_pos h1]
      refine List.ext_getElem (by simp) fun i h1 h2 => ?_
      simp only [List.getElem_map, List.getElem_zip]
      split <;> rfl
    · intro κ G iv vs d
      revert us vs
      induction ks with
      | nil => simp at hk
      | cons a ks ih =>
        intro us hl vs r rd
        cases us with
        | nil => simp at hl
        | cons u us =>
          cases r with
          | cons r t =>
            simp only [List.map_cons, List.zip_cons_cons, putVs]
            rw [List.nodup_cons] at hn
            by_cases ha : a = k
            · subst ha
              rw [if_pos rfl, if_pos rfl]
              refine .cons rd ?_
              have : (ks.zip us).map (fun p => if p.1 = a then v else p.2) = us := by
                refine List.ext_getElem (by simp at hl ⊢; omega) fun i h1 h2 => ?_
                simp only [List.getElem_map, List.getElem_zip]
                rw [if_neg]
                intro e
                exact hn.1 (e ▸ List.getElem_mem _)
              rw [this]; exact t
            · rw [if_neg ha, if_neg fun e => ha (tupD_inj e)]
              refine .cons r (ih hn.2 ?_ (by simpa using hl) t rd)
              rcases List.mem_cons.mp hk with e | e
              · exact absurd e.symm ha
              · exact e
  · refine ⟨ks ++ [k], us ++ [v], ?_, by simp [hl], .inr ⟨hk, rfl⟩, ?_⟩
    · unfold putK
      have h1 : ¬ (ks.zip us).any (fun kv => decide (kv.1 = k)) = true := by
        rw [List.any_eq_true]
        rintro ⟨p, hp, e⟩
        simp at e
        exact hk (e ▸ (List.of_mem_zip hp).1)
      rw [if_neg h1, List.zip_append hl]
      rfl
    · intro κ G iv vs d
      revert us vs
      induction ks with
      | nil =>
        intro us hl vs r rd
        cases us with
        | nil => cases r; exact .cons rd .nil
        | cons => simp at hl
      | cons a ks ih =>
        intro us hl vs r rd
        cases us with
        | nil => simp at hl
        | cons u us =>
          cases r with
          | cons r t =>
            simp only [List.map_cons, putVs, List.cons_append]
            rw [List.mem_cons, not_or] at hk
            rw [if_neg fun e => hk.1 (tupD_inj e).symm]
            exact .cons r (ih (List.nodup_cons.mp hn).2 hk.2 (by simpa using hl) t rd)
theorem reps_of_leaves {G H : Hp} {iv : IV} : ∀ {xs : List D} {vs : List V}, OT.reps κ G iv H (leaves xs) vs → Reps κ G iv vs xs
  | [], vs, r => by rw [leaves, List.map_nil, OT.reps] at r; subst r; exact .nil
  | x :: xs, vs, r => by
    rw [leaves, List.map_cons, OT.reps] at r
    obtain ⟨v, us, rfl, h1, h2⟩ := r
    rw [OT.rep] at h1
    exact .cons h1 (reps_of_leaves h2)
open Classical in
theorem putKs_T {k : List Key} {ks ks' : List (List Key)} (h : (k ∈ ks ∧ ks' = ks) ∨ (k ∉ ks ∧ ks' = ks ++ [k])) : putKs (ks.map fun k => D.tup (k.map keyD)) (.tup (k.map keyD)) = ks'.map fun k => D.tup (k.map keyD) := by
  unfold putKs
  have hm : (D.tup (k.map keyD)) ∈ (ks.map fun k => D.tup (k.map keyD)) ↔ k ∈ ks := by
    constructor
    · intro h
      obtain ⟨j, hj, e⟩ := List.mem_map.mp h
      exact tupD_inj e ▸ hj
    · exact fun h => List.mem_map.mpr ⟨k, h, rfl⟩
  rcases h with ⟨h, rfl⟩ | ⟨h, rfl⟩
  · rw [if_pos (hm.mpr h)]
  · rw [if_neg fun z => h (hm.mp z), List.map_append]; rfl
/-- x[k] = e, x an own dict with tuple keys -/
@[simp] def sSetT (i : Nat) (fv fk : FE) : FS := fun D env n => fv (hide env) n fun d m => ∃ a ks vs, env[i]? = some (some (.tre (.dcu a ks (leaves vs)))) ∧ fk (hide env) m fun k m2 => (∃ xs, k = .tup xs ∧ xs.all isKeyD = true) ∧ ks.length < 16777216 ∧ D.nx (env.set i (some (.tre (.dcu a (putKs ks k) (leaves (putVs ks vs k d)))))) m2
theorem S_setT (i : Nat) {x : Str} {p2 p3 : Pos} {k : Expr} {r : Nat} (hr : Room r X.A) (hva : DE κ X e fa) (hk : DE κ X k fb) (hN : X.N[i]? = some x := by rfl) (hv : Vis X.env.scope x := by first | exact Or.inl rfl | exact Or.inr (Or.inl rfl) | exact Or.inr (Or.inr rfl)) (hs : swapsWith e (some (.Subscript (.Name x p2) k p3)) pos.line X.env = pure false := by rfl)
    (hd : (x == ("__debug__" : Str)) = false := by decide) (hcd : (x == ("__classdict__" : Str)) = false := by decide) : D1 κ X (.Assign [.Subscript (.Name x p2) k p3] e pos) (sSetT i fa fb) := by
  obtain ⟨tv, pv, qv⟩ := hva
  obtain ⟨tk, pk, qk⟩ := hk
  refine ⟨_, ps_dput (hu_of hr) (pe_var hN hv hd hcd) pk pv hs, fun P0 G0 H0 P G H σ env D E gr g ev hf ok => ?_⟩
  refine at_hide qv g ev hf fun v P1 G1 H1 d gr1 g1 ev1 rv h1 => ?_
  obtain ⟨b, ks, vs, hx, h1⟩ := h1
  obtain ⟨u, q1, r1, r2, r3⟩ := ev1.get i _ hx
  rw [OT.rep] at r1
  obtain ⟨rfl, _⟩ := r1
  refine ⟨_, q1, at_hide qk g1 ev1 h1 fun w P2 G2 H2 dk gr2 g2 ev2 rk h2 => ?_⟩
  obtain ⟨⟨xs, rfl, hxs⟩, hz, h2⟩ := h2
  obtain ⟨u, q1', r1, r2, r3⟩ := ev2.get i _ hx
  rw [q1] at q1'
  cases q1'
  rw [OT.rep] at r1
  obtain ⟨_, kk, us, m1, m2, m3, m4, rfl, m5⟩ := r1
  have eo : ∀ (ks : List DL.D) (vs : List DL.D), (OT.dcu b ks (leaves vs)).own = [b] := fun ks vs => by rw [OT.own, owns_leaves]
  obtain ⟨b1, b2, b3⟩ := r3 b (by rw [eo]; simp)
  cases rk with
  | @tup c cs _ hc zc rc =>
    obtain ⟨k1, e1, e2⟩ := reps_key rc hxs
    subst e1 e2
    have hsz : sizeLine = 16777216 := PySem.sizeLine_eq
    rw [List.length_map] at hz
    obtain ⟨ks', us', p1, p2, p3, p4⟩ := putT_zip (k := k1) (v := v) m2 m4.1
    have hok : ∀ j ∈ k1, OkK j := by
      have key : ∀ {vs : List V} {k : List Key}, Reps κ G2 P2.iv vs (k.map keyD) → ∀ j ∈ k, OkK j := by
        intro vs k
        induction k generalizing vs with
        | nil => exact fun _ _ h => nomatch h
        | cons j k ih =>
          intro r x hx
          cases r with
          | cons r t =>
            rcases List.mem_cons.mp hx with rfl | hx
            · exact (rep_keyOk r).2
            · exact ih t x hx
      exact key rc
    refine ⟨b, _, rfl, DPut.t m1 (g2.gx hc rfl) (by rw [List.length_zip, ← m2, Nat.min_self]; omega), ?_⟩
    rw [p1]
    have hks : ks'.length ≤ sizeLine := by
      rcases p3 with ⟨_, rfl⟩ | ⟨_, rfl⟩
      · exact m3
      · rw [List.length_append]; simp; omega
    have okt : OkKt ks' := by
      rcases p3 with ⟨_, rfl⟩ | ⟨hk, rfl⟩
      · exact m4
      · refine ⟨List.nodup_append.mpr ⟨m4.1, by simp, ?_⟩, fun j hj => ?_⟩
        · intro x hx y hy exy
          simp at hy
          subst hy exy
          exact hk hx
        · rcases List.mem_append.mp hj with hj | hj
          · exact m4.2 j hj
          · simp at hj; rw [hj]; exact ⟨by simpa using zc, hok⟩
    refine ok.nx P2 G2 _ σ _ (((gr.trans gr1).trans gr2).put b1) (g2.put b2 b3) ?_ h2
    rw [putKs_T p3]
    refine ev2.chg0 (s := .tre _) q1 ⟨?_, by rw [eo]; simp, fun c hc => ?_⟩ (fun j t w hij hj hw r => ?_) fun c hc j t w hij hj hw ht => ?_
    · rw [OT.rep]
      exact ⟨rfl, ks', us', upd_same, p2, hks, okt, rfl, reps_leaves (p4 (reps_of_leaves m5) (gr2.rep rv))⟩
    · rw [eo, List.mem_singleton] at hc
      subst hc; exact ⟨b1, b2, b3⟩
    · refine r.to (fun _ _ h => h) (fun _ _ h => h) fun c hc => ?_
      obtain ⟨c1, c2, c3, _⟩ := r.held hc
      have : c ≠ b := fun e => by subst e; exact ev2.apart i j _ _ _ _ c hij hx hj q1 hw (by show c ∈ (OT.dcu c _ (leaves vs)).own; rw [eo]; simp) hc
      exact ⟨fun o ho => by rw [upd_ne this]; exact ho, c1, c2, c3⟩
    · have hc : c ∈ (OT.dcu b _ (leaves _)).own := hc
      rw [eo, List.mem_singleton] at hc
      subst hc
      exact ev2.apart i j _ _ _ _ c hij hx hj q1 hw (by show c ∈ (OT.dcu c _ (leaves vs)).own; rw [eo]; simp) ht
end
end DL
namespace SrtO
open PySem PyProof.Rows Srt
abbrev I3 := Int × Int × Int
def lexC (p q : I3) : Bool := if p.1 = q.1 then (if p.2.1 = q.2.1 then decide (p.2.2 < q.2.2) else decide (p.2.1 < q.2.1)) else decide (p.1 < q.1)
theorem lexC_iff {p q : I3} : lexC p q = true ↔ p.1 < q.1 ∨ (p.1 = q.1 ∧ (p.2.1 < q.2.1 ∨ (p.2.1 = q.2.1 ∧ p.2.2 < q.2.2))) := by
  unfold lexC
  split
  · split
    · rw [decide_eq_true_eq]; omega
    · rw [decide_eq_true_eq]; omega
  · rw [decide_eq_true_eq]; omega
theorem lexC_no {p q : I3} : lexC p q = false ↔ ¬ (p.1 < q.1 ∨ (p.1 = q.1 ∧ (p.2.1 < q.2.1 ∨ (p.2.1 = q.2.1 ∧ p.2.2 < q.2.2)))) := by
  rw [← lexC_iff]
  cases lexC p q <;> simp
theorem swo_lexC {α : Type} (k : α → I3) : Swo fun v u => lexC (k v) (k u) := by
  refine ⟨fun x y h => ?_, fun x y z h1 h2 => ?_⟩
  · have a := lexC_iff.mp h
    refine lexC_no.mpr ?_
    omega
  · have a := lexC_no.mp h1
    have b := lexC_no.mp h2
    refine lexC_no.mpr ?_
    omega
def IsTri (h : Heap) (v : Value) (x : I3) : Prop := ∃ a o t u r n, v = .ref a ∧ h.get? a = some o ∧ o.cls = .type "tuple" ∧ o.data = .seq #[.int x.1 t, .int x.2.1 u, .int x.2.2 r] n
theorem IsTri.keeps {h h' : Heap} {v : Value} {x : I3} (p : IsTri h v x) (k : ∀ b o, h.get? b = some o → o.cls = .type "tuple" → h'.get? b = some o) : IsTri h' v x := by
  obtain ⟨a, o, t, u, r, n, e, ho, hc, hd⟩ := p
  exact ⟨a, o, t, u, r, n, e, k _ _ ho hc, hc, hd⟩
theorem firsts_ofC {h : Heap} : ∀ {vs : List Value}, (∀ v ∈ vs, ∃ x, IsTri h v x) → ∃ fs : List Value, PySem.W.KatTups h vs fs ∧ fs.length = vs.length ∧ ∀ f ∈ fs, ∃ x t, f = Value.int x t
  | [], _ => ⟨[], PySem.W.KatTups.nil, rfl, fun _ hm => by simp at hm⟩
  | v :: vs, hp => by
    obtain ⟨fs, h1, h2, h3⟩ := firsts_ofC (vs := vs) fun v' hm => hp v' (List.mem_cons_of_mem _ hm)
    obtain ⟨x, a, o, t, u, r, n, e, ho, hc, hd⟩ := hp v (List.mem_cons_self ..)
    subst e
    refine ⟨.int x.1 t :: fs, PySem.W.KatTups.cons ho hc hd rfl h1, by rw [List.length_cons, List.length_cons, h2], fun f hm => ?_⟩
    rcases List.mem_cons.mp hm with rfl | hm
    · exact ⟨x.1, t, rfl⟩
    · exact h3 f hm
section
variable {prog : Program} {w : World} {A : Around} {E : Value → Shared → Prop} {s : Shared}
theorem tri_cmp {vs : List Value} {k : Value → I3} (hp : ∀ v ∈ vs, IsTri s.heap v (k v)) : Cmp prog w A s (tuples' true) (fun p => p.1 ∈ vs) (lt2 fun v u => lexC (k v) (k u)) := by
  intro p q hm hm'
  have h1 := hp _ hm
  have h2 := hp _ hm'
  show wpAny (model prog w) A (keyLt' (tuples' true) p.1 q.1) (fun r s' => s' = s ∧ r = lexC (k p.1) (k q.1)) (fun _ _ => False) s
  generalize k p.1 = x at h1 ⊢
  generalize k q.1 = x' at h2 ⊢
  obtain ⟨a, o, t, u, r, n, e, ho, hc, hd⟩ := h1
  obtain ⟨a', o', t', u', r', n', e', ho', hc', hd'⟩ := h2
  obtain ⟨x, y, z⟩ := x
  obtain ⟨x', y', z'⟩ := x'
  rw [e, e']
  refine PySem.W.kat_lt ho hd ho' hd' ?_
  show PySem.W.KatLex prog w A true (decide (3 < 3)) _ [(.int x t, .int x' t'), (.int y u, .int y' u'), (.int z r, .int z' r')] 0 s
  refine PySem.W.kat_cons (SeqAt.EqAt.int_int x t x' t' prog w _ _ ?_)
  refine PySem.W.kat_go (fun e1 => ?_) (fun e1 => ?_)
  · have ex : x = x' := by simpa using e1
    refine PySem.W.kat_yes (PySem.W.kat_cons (SeqAt.EqAt.int_int y u y' u' prog w _ _ ?_))
    refine PySem.W.kat_go (fun e2 => ?_) (fun e2 => ?_)
    · have ey : y = y' := by simpa using e2
      refine PySem.W.kat_yes (PySem.W.kat_cons (SeqAt.EqAt.int_int z r z' r' prog w _ _ ?_))
      refine PySem.W.kat_go (fun e3 => ?_) (fun e3 => ?_)
      · have ez : z = z' := by simpa using e3
        have e4 : lexC (x, y, z) (x', y', z') = false := by rw [ex, ey, ez]; exact (swo_lexC (α := I3) id).refl _
        exact PySem.W.kat_yes (PySem.W.kat_nil ⟨rfl, e4.symm⟩)
      · have e4 : lexC (x, y, z) (x', y', z') = decide (z < z') := by unfold lexC; rw [if_pos ex, if_pos ey]
        refine PySem.W.kat_no (PySem.W.kat_one _ _ (PyProof.Rows.lt_int ?_))
        exact (show s = s ∧ decide (z < z') = lexC (x, y, z) (x', y', z') from ⟨rfl, e4.symm⟩)
    · have ey : ¬ y = y' := by simpa using e2
      have e4 : lexC (x, y, z) (x', y', z') = decide (y < y') := by unfold lexC; rw [if_pos ex, if_neg ey]
      refine PySem.W.kat_no (PySem.W.kat_one _ _ (PyProof.Rows.lt_int ?_))
      exact (show s = s ∧ decide (y < y') = lexC (x, y, z) (x', y', z') from ⟨rfl, e4.symm⟩)
  · have ex : ¬ x = x' := by simpa using e1
    have e4 : lexC (x, y, z) (x', y', z') = decide (x < x') := by unfold lexC; rw [if_neg ex]
    exact PySem.W.kat_no (oneLt_int ⟨rfl, e4.symm⟩)
theorem tri_sortableO {a : Addr} {vs : List Value} {k : Value → I3} (h0 : 0 < vs.length) (hp : ∀ v ∈ vs, IsTri s.heap v (k v)) (ha : ∀ o, s.heap.get? a = some o → o.cls ≠ .type "tuple") : SortableO prog w A s a vs fun v u => lexC (k v) (k u) := by
  intro h' keep
  have hp' : ∀ v ∈ vs, IsTri h' v (k v) := fun v hm => (hp v hm).keeps fun b o e c => keep b o (fun z => by subst z; exact ha o e c) e
  obtain ⟨fs, h1, h2, h3⟩ := firsts_ofC fun v hm => ⟨_, hp' v hm⟩
  refine ⟨tuples' true, fun Q E hq => ?_, tri_cmp hp'⟩
  refine PySem.W.kat_kind (T := .type "int") h1 (by omega) (fun f hm => ?_) (by rfl) ?_
  · obtain ⟨x, t, rfl⟩ := h3 f hm
    exact PySem.W.Looks.now
  · have e : (Value.type "int" != Value.type "tuple") = true := by first | decide +kernel | rfl | decide
    rw [e]
    exact hq
theorem sorted_tri {l : Addr} {vs : List Value} {k : Value → I3} {Q : Value → Shared → Prop} (hl : s.heap.IsList l vs.toArray) (hz : vs.length ≤ sizeLine) (hp : ∀ v ∈ vs, IsTri s.heap v (k v))
    (h : ∀ (h' : Heap) (d : Addr) (out : List Value), Srtd (fun v u => lexC (k v) (k u)) out → Stb (fun v u => lexC (k v) (k u)) out vs → (∀ b o, s.heap.get? b = some o → h'.get? b = some o) → s.heap.objs.size ≤ d → (∃ n, h'.get? d = some (seqObj "list" out.toArray n)) → Q (.ref d) { s with heap := h' }) :
    wpAny (model prog w) A (call (.builtin "sorted") [.ref l]) Q E s := by
  refine sorted_ord (swo_lexC k) hl hz (fun h2 h₁ a ha kk => ?_) fun out hs hb => ?_
  · refine tri_sortableO (s := { s with heap := h₁ }) (by omega) (fun v hm => (hp v hm).keeps fun b o e _ => (kk b o e).2) fun o e => ?_
    have e' : some o = some (seqObj "list" vs.toArray 0) := e.symm.trans ha
    cases e'
    intro c
    exact absurd (Value.type.inj c) (by decide)
  · exact h _ _ out hs hb (fun b o e => sortedAll_old e) (Nat.le_succ _) (sortedAll_at s.heap vs out.toArray)
end
end SrtO
namespace L2
open PySem PySem.Spec PyProof.Rows
abbrev ltC (k : V → SrtO.I3) (x y : V) : Bool := SrtO.lexC (k x) (k y)
/-- sorted(xs), triples of numbers -/
def rSortedC (K : PySem.W.Frag) : List V → Hp → VK → Prop := fun vs H Q => ∃ (a : Addr) (xs : List V) (k : V → SrtO.I3), vs = [V.ref a] ∧ SqL K H a xs ∧ (∀ x ∈ xs, ∃ t, x = V.ref t ∧ H t = some (.tup [.int (k x).1, .int (k x).2.1, .int (k x).2.2])) ∧
  ∀ ys p, SrtO.Srtd (ltC k) ys → SrtO.Stb (ltC k) ys xs → H p = none → Q (.ref p) (upd H p (.lst ys))
section
variable {X : Cx}
theorem cr_sortedC : CallR X (.builtin "sorted") (rSortedC X.K) := by
  intro pins s σ H vs us Q I r h
  obtain ⟨a, xs, k, rfl, hs, hx, q⟩ := h
  obtain ⟨its, rv, hl, hz⟩ := I.list hs
  obtain ⟨u, rfl, ru⟩ := vals1 r
  obtain rfl : u = Value.ref a := ru
  obtain ⟨e1, e2⟩ := refs_back rv fun x m => by
    obtain ⟨t, e, _⟩ := hx x m
    exact ⟨t, e⟩
  refine SrtO.sorted_tri (k := fun u => k (backV u)) hl.isList (by rw [← rv.length]; exact hz) (fun v hv => ?_) fun h' d out h1 h2 kp hd hn => ?_
  · obtain ⟨t, rfl⟩ := e2 v hv
    have hm : V.ref t ∈ xs := by rw [e1]; exact List.mem_map.mpr ⟨_, hv, rfl⟩
    obtain ⟨t', e, ht⟩ := hx _ hm
    cases e
    obtain ⟨_, its2, r2, o, ho, hc, n, hd⟩ := I.hok _ _ ht
    cases r2 with
    | cons c1 r2 => cases r2 with
      | cons c2 r2 => cases r2 with
        | cons c3 r2 =>
          cases r2
          obtain ⟨t1, rfl⟩ := c1
          obtain ⟨t2, rfl⟩ := c2
          obtain ⟨t3, rfl⟩ := c3
          exact ⟨t, o, t1, t2, t3, n, rfl, ho, hc, hd⟩
  · have h3 : ∀ u ∈ out, ∃ a, u = Value.ref a := fun u hu => e2 u (h2.perm.mem_iff.mp hu)
    obtain ⟨n, hn⟩ := hn
    have hb : SrtO.Stb (ltC k) (out.map backV) xs := by
      rw [e1]
      exact SrtO.Stb.map (SrtO.swo_lexC k) backV h2
    refine ⟨.ref d, upd H d (.lst (out.map backV)), I.laid (t' := s.toks) kp hd ⟨?_, out, n, vals_back h3, hn⟩, rfl, q _ d (SrtO.srtd_map h1) hb (I.hok.fresh hd)⟩
    rw [hb.len]
    exact hz
end
end L2
namespace DL
open PySem PySem.Spec PyProof.Rows L2
abbrev PTr (ps : List SrtO.I3) : List D := ps.map fun p => .tup [.int p.1, .int p.2.1, .int p.2.2]
/-- sorted(xs), triples of numbers: the same ones, in order -/
def oSortedC (ds : List D) (n : Nat) (Q : List D → Nat → Prop) : Prop := ∃ ps : List SrtO.I3, ds = [.lst (PTr ps)] ∧ ∀ qs : List SrtO.I3, qs.Perm ps → qs.Pairwise (fun p q => SrtO.lexC q p = false) → Q (PTr qs) n
def triAt (G : Hp) (v : V) : SrtO.I3 := match v with
  | .ref t => match G t with
    | some (.tup [.int i, .int j, .int k]) => (i, j, k)
    | _ => (0, 0, 0)
  | _ => (0, 0, 0)
section
variable {κ : Kit} {X : Cx} {a b c e tg : Expr} {es : List Expr} {fa fb f fk : FE} {far : FA} {t1 : FT} {pos p p2 : Pos}
theorem tris_at {P : Wd} {G : Hp} : ∀ {ps : List SrtO.I3} {vs : List V}, Reps κ G P.iv vs (PTr ps) → vs.map (triAt G) = ps ∧ ∀ v ∈ vs, ∃ t, v = V.ref t ∧ G t = some (.tup [.int (triAt G v).1, .int (triAt G v).2.1, .int (triAt G v).2.2])
  | [], _, .nil => ⟨rfl, fun _ h => nomatch h⟩
  | p :: ps, v :: vs, .cons r t => by
    obtain ⟨h1, h2⟩ := tris_at t
    cases r with
    | @tup a us _ hb hz r =>
      cases r with
      | cons r1 r => cases r with
        | cons r2 r => cases r with
          | cons r3 r =>
            cases r
            cases r1
            cases r2
            cases r3
            have e : triAt G (V.ref a) = (p.1, p.2.1, p.2.2) := by simp [triAt, hb]
            refine ⟨by rw [List.map_cons, h1, e], fun v hv => ?_⟩
            rcases List.mem_cons.mp hv with rfl | hv
            · exact ⟨a, rfl, by rw [e]; exact hb⟩
            · exact h2 v hv
theorem reps_tris {P : Wd} {G : Hp} : ∀ {vs : List V}, (∀ v ∈ vs, ∃ t, v = V.ref t ∧ G t = some (.tup [.int (triAt G v).1, .int (triAt G v).2.1, .int (triAt G v).2.2])) → Reps κ G P.iv vs (PTr (vs.map (triAt G)))
  | [], _ => .nil
  | v :: vs, h => by
    obtain ⟨t, e, ht⟩ := h v (List.mem_cons_self ..)
    refine .cons ?_ (reps_tris fun u hu => h u (List.mem_cons_of_mem _ hu))
    subst e
    exact .tup ht (by rw [sizeLine_eq]; show 3 ≤ 16777216; decide) (.cons .int (.cons .int (.cons .int .nil)))
theorem o_sortedC (hm : X.mg "sorted" = none) (ha : DE κ X e f) (hg : Gl X "sorted" := by rfl) (he : starEach [e] X.env = (false, eval e X.env) :: starEach [] X.env := by rfl) (hpl : (backTo pos (starEach [] X.env)).any (·.1) = false := by rfl) : DO κ X (.Call (.Name "sorted" p) [e] [] pos) (oCl oSortedC (aCons f aNil)) := by
  refine do_callB ?_ cr_sortedC hg hm (by decide +kernel) (da_one ha he) (by decide) (by decide) he hpl
  intro P G H vs ds Q R g r hf hR
  obtain ⟨ps, rfl, hf⟩ := hf
  obtain ⟨v, rfl, rv⟩ := val1 r
  cases rv with
  | @lst a0 us0 _ h z r =>
    obtain ⟨e1, e2⟩ := tris_at r
    refine ⟨_, us0, triAt G, rfl, SqL.of (g.gx h rfl), fun x hx => ?_, fun ys p hs hb hn => ?_⟩
    · obtain ⟨t, e, ht⟩ := e2 x hx
      exact ⟨t, e, g.gx ht rfl⟩
    · have hp : ys.Perm us0 := hb.perm
      have h2 := fun v hv => e2 v (hp.mem_iff.mp hv)
      have hq := hf (ys.map (triAt G)) (by rw [← e1]; exact hp.map _) (List.pairwise_map.mpr hs)
      exact hR p P G _ _ _ (Grow.new hn) (g.new hn) hn (g.gnone hn) (g.inone hn) upd_same (by rw [hp.length_eq]; exact z) (reps_tris h2) hq
end
end DL
namespace DL
open PySem PySem.Spec PyProof.Rows L2
/-- the keys of a dict, by its name -/
@[simp] def iDk (i : Nat) : FA := fun env n Q => ∃ ks vs, env[i]? = some (some (.dcu ks vs)) ∧ Q ks n
def RdK (κ : Kit) (i : Nat) (w : TI) : Prop := ∀ (a : Addr) (kk : List (List Key)) (us : List V) (od : Obj) (P : Wd) (G H : Hp) (σ : L2.St) (R : It → Hp → Prop), Good κ P G H → σ[i]? = some (some (.ref a)) → H a = some (.frz od (.dT (kk.zip us))) → G a = some (.dT (kk.zip us)) → kk.length = us.length → kk.length ≤ sizeLine → OkKt kk →
  (∀ J, IterS κ (fun H' => H' a = some (.frz od (.dT (kk.zip us)))) J P G (kk.map fun k => D.tup (k.map keyD)) → R J H) → w σ H R
def DKt (κ : Kit) (X : Cx) (tg iter : Expr) (i : Nat) : Prop := ∃ w, PI X tg iter w ∧ RdK κ i w
theorem wipe_get {σ : L2.St} {i : Nat} : ∀ {vs : List Nat}, i ∉ vs → (L2.wipe σ vs)[i]? = σ[i]?
  | [], _ => rfl
  | v :: vs, h => by
    rw [List.mem_cons, not_or] at h
    show ((L2.wipe σ vs).set v none)[i]? = _
    rw [List.getElem?_set_ne (Ne.symm h.1)]
    exact wipe_get h.2
section
variable {κ : Kit} {X : Cx} {a b c e o tg : Expr} {es : List Expr} {fa fb fc f : FE} {far far1 : FA} {pos p : Pos} {t1 t2 : FT} {x : Str}
theorem dk_name {i : Nat} (hN : X.N[i]? = some x := by rfl) (hv : Vis X.env.scope x := by first | exact Or.inl rfl | exact Or.inr (Or.inl rfl) | exact Or.inr (Or.inr rfl)) (hd : (x == ("__debug__" : Str)) = false := by decide) (hcd : (x == ("__classdict__" : Str)) = false := by decide) : DKt κ X tg (.Name x pos) i := by
  refine ⟨_, pi_keys (pe_var hN hv hd hcd), fun a kk us od P G H σ R g hσ hHa hGa hl z nd hR => ?_⟩
  refine ⟨_, hσ, a, od, rfl, .inr ⟨_, hHa, hR _ ⟨by rw [List.length_map]; exact z, fun j P1 G1 H2 ex g2 hS => ⟨fun hj => ?_, fun hj => ?_⟩⟩⟩⟩
  · rw [List.length_map] at hj
    refine ⟨⟨hS, by rw [List.length_zip, ← hl, Nat.min_self]; exact hj⟩, fun v H3 hy => ?_⟩
    obtain ⟨rfl, k, w, q, e1, rfl, hqk⟩ := hy
    have hk : kk[j]? = some k := by
      rw [List.getElem?_zip_eq_some] at e1
      exact e1.1
    have hm := nd.2 k (List.mem_of_getElem? hk)
    obtain ⟨G4, gr4, g4, r4⟩ := key_frz g2 hqk hm.1 hm.2
    exact ⟨G4, .tup (k.map keyD), gr4, g4, by rw [List.getElem?_map, hk]; rfl, r4⟩
  · rw [List.length_map] at hj
    exact ⟨hS, by rw [List.length_zip, ← hl, Nat.min_self]; omega⟩
theorem lc2K_body {i0 : Nat} {a : Addr} {od : Obj} {u : HO} {w w1 : TI} {g g1 : TG} {tt tt1 : TT} {te : TE} {vs vs1 sl sl1 : List Nat} {φ φ1 : FG} {P : Wd} {G H : Hp} {σ : L2.St} {env : DEnv} {Q : List D → Nat → Prop} {R : VK} (hi : RdK κ i0 w) (hg : LiftG κ g sl φ) (ht : RdT κ t1 tt) (hi1 : RdK κ i0 w1) (hg1 : LiftG κ g1 sl1 φ1) (ht1 : RdT κ t2 tt1) (he : RdE κ f te) (hsl : ∀ i ∈ sl, i ∈ vs) (hsl1 : ∀ i ∈ sl1, i ∈ vs1) (hni : i0 ∉ vs)
    (gb : Good κ P G H) (ev : EnvR κ G P.iv σ env) (hσ : σ[i0]? = some (some (.ref a))) (hGa : G a = some u) (hia : P.iv a = none) (hHa : H a = some (.frz od u)) (hf : oComp2 (iDk i0) φ t1 (iDk i0) φ1 t2 f vs vs1 env P.n Q) (hR : LkO κ P G H Q R) : tLc2 w g tt w1 g1 tt1 te vs vs1 σ H R := by
  obtain ⟨xs, vs0, he0, hq⟩ := hf
  obtain ⟨v0, q1, r⟩ := ev.get i0 _ he0
  rw [hσ] at q1
  cases q1
  cases r with
  | @dctT _ kk us _ h hl z nd r =>
  rw [hGa] at h
  cases h
  have hS : ∀ P' G' H', Grow P G H P' G' H' → H' a = some (.frz od (.dT (kk.zip us))) := fun P' G' H' gr => gr.h a _ hHa hia
  generalize hxs : (kk.map fun k => D.tup (k.map keyD)) = xs at hq
  refine hi a kk us od P G H σ _ gb hσ hHa hGa hl z nd fun J it => ?_
  rw [hxs] at it
  intro Dl hD
  have hzl := it.1
  have hsz : sizeLine = 16777216 := PySem.sizeLine_eq
  refine ⟨fun i m H' => ∃ P' G' acc accD, Acc κ P G H Dl acc accD P' G' H' ∧ i ≤ xs.length ∧ m = xs.length - i ∧ acc.length ≤ 16777216 ∧
    go2 φ t1 (iDk i0) φ1 t2 f vs1 (wipeE env vs) (xs.drop i) accD.length P'.n (fun ys k => Q (accD ++ ys) k), ⟨xs.length, P, G, [], [], ⟨Grow.new hD, gb.new hD, gb.gnone hD, gb.inone hD, upd_same, .nil⟩, Nat.zero_le _, rfl, Nat.zero_le _, hq⟩, ?_⟩
  rintro i m H' ⟨P', G', acc, accD, ac, hix, rfl, hal, hgo⟩
  have gr := ac.1
  have evb := ev.grow gr
  by_cases hlt : i < xs.length
  · obtain ⟨go, yl⟩ := (it.2 i P' G' H' gr.ext ac.2.1 (hS _ _ _ gr)).1 hlt
    refine .inr ⟨go, fun H2 => ∃ P2 G2 acc2 accD2, Acc κ P G H Dl acc2 accD2 P2 G2 H2 ∧ acc2.length ≤ 16777216 ∧
      go2 φ t1 (iDk i0) φ1 t2 f vs1 (wipeE env vs) (xs.drop (i + 1)) accD2.length P2.n (fun ys k => Q (accD2 ++ ys) k), fun H2 hN => ?_, fun v H2 hy => ?_⟩
    · obtain ⟨P2, G2, acc2, accD2, q1, q2, q3⟩ := hN
      exact ⟨xs.length - (i + 1), by omega, P2, G2, acc2, accD2, q1, hlt, rfl, q2, q3⟩
    · obtain ⟨G2, d, gr2, g2, hxd, rd⟩ := yl v H2 hy
      have hdrop : xs.drop i = d :: xs.drop (i + 1) := by
        rw [List.drop_eq_getElem_cons hlt]
        rw [List.getElem?_eq_getElem hlt] at hxd
        cases hxd; rfl
      rw [hdrop] at hgo
      have evw : EnvR κ G2 P'.iv (L2.wipe σ vs) (wipeE env vs) := (evb.grow gr2).wipe vs
      have ac2 := ac.step gr2 g2
      refine hg P' G2 H2 v d (L2.wipe σ vs) (wipeE env vs) _ _ g2 evw rd hgo fun σ' env' ev' hw hf1 => ?_
      refine ⟨by rw [hw vs hsl]; exact wipe_wipe σ vs, ?_⟩
      refine ht P' G2 H2 σ' env' _ _ g2 ev' hf1 fun b P3 G3 H3 gr3 g3 hf2 => ?_
      have ac3 := ac2.step gr3 g3
      cases b with
      | false => exact ⟨P3, G3, acc, accD, ac3, hal, hf2⟩
      | true =>
        obtain ⟨ys, vs2, he1, hyl, hf3⟩ := hf2
        have ev4 := ev'.grow gr3
        have ac4 := ac3
        have hσ' : σ'[i0]? = some (some (.ref a)) := by
          have e := hw vs hsl
          rw [wipe_wipe] at e
          have e2 := congrArg (fun l : L2.St => l[i0]?) e
          simp only [wipe_get hni] at e2
          rw [e2]; exact hσ
        obtain ⟨v1, q2, r1⟩ := ev4.get i0 _ he1
        rw [hσ'] at q2
        cases q2
        cases r1 with
        | @dctT _ kk1 us1 _ h1 hl1 z1 nd1 r1 =>
        have eu : (HO.dT (kk.zip us)) = .dT (kk1.zip us1) := by
          have h3 := hS _ _ _ ac3.1
          rcases g3.gh a _ h1 with q | ⟨_, od1, q⟩
          · rw [h3] at q; cases q
          · rw [h3] at q; injection q with q; injection q
        have hS1 : ∀ P' G' H', Grow P G H P' G' H' → H' a = some (.frz od (.dT (kk1.zip us1))) := fun P' G' H' gr => by rw [← eu]; exact hS _ _ _ gr
        generalize hys : (kk1.map fun k => D.tup (k.map keyD)) = ys at hyl hf3
        refine hi1 a kk1 us1 od P3 G3 H3 σ' _ g3 hσ' (hS1 _ _ _ ac3.1) h1 hl1 z1 nd1 fun J1 it1 => ?_
        rw [hys] at it1
        have hacl : acc.length = accD.length := ac.2.2.2.2.2.length
        refine ⟨fun j k H5 => ∃ P5 G5 acc5 accD5, Acc κ P G H Dl acc5 (accD ++ accD5) P5 G5 H5 ∧ Ext P3 G3 P5 G5 ∧ EnvR κ G5 P5.iv σ' env' ∧ j ≤ ys.length ∧ k = ys.length - j ∧ accD5.length ≤ j ∧
          goD φ1 t2 f (wipeE env' vs1) (ys.drop j) P5.n (fun zs n3 => go2 φ t1 (iDk i0) φ1 t2 f vs1 (wipeE env vs) (xs.drop (i + 1)) (accD.length + (accD5 ++ zs).length) n3 fun ws n4 => Q (accD ++ ((accD5 ++ zs) ++ ws)) n4),
          ⟨ys.length, P3, G3, acc, [], by simpa using ac4, .refl, ev4, Nat.zero_le _, rfl, Nat.zero_le _, by simpa using hf3⟩, ?_⟩
        rintro j k H5 ⟨P5, G5, acc5, accD5, ac5, ex5, ev5, hjx, rfl, hal5, hgo5⟩
        have hl5 : acc5.length = accD.length + accD5.length := by rw [ac5.2.2.2.2.2.length, List.length_append]
        by_cases hjt : j < ys.length
        · obtain ⟨go1, yl1⟩ := (it1.2 j P5 G5 H5 ex5 ac5.2.1 (hS1 _ _ _ ac5.1)).1 hjt
          refine .inr ⟨go1, fun H6 => ∃ P6 G6 acc6 accD6, Acc κ P G H Dl acc6 (accD ++ accD6) P6 G6 H6 ∧ Ext P3 G3 P6 G6 ∧ EnvR κ G6 P6.iv σ' env' ∧ accD6.length ≤ j + 1 ∧
            goD φ1 t2 f (wipeE env' vs1) (ys.drop (j + 1)) P6.n (fun zs n3 => go2 φ t1 (iDk i0) φ1 t2 f vs1 (wipeE env vs) (xs.drop (i + 1)) (accD.length + (accD6 ++ zs).length) n3 fun ws n4 => Q (accD ++ ((accD6 ++ zs) ++ ws)) n4), fun H6 hN => ?_, fun v1 H6 hy1 => ?_⟩
          · obtain ⟨P6, G6, acc6, accD6, q1, q2, q3, q4, q5⟩ := hN
            exact ⟨ys.length - (j + 1), by omega, P6, G6, acc6, accD6, q1, q2, q3, hjt, rfl, q4, q5⟩
          · obtain ⟨G6, d1, gr6, g6, hyd, rd1⟩ := yl1 v1 H6 hy1
            have hdrop1 : ys.drop j = d1 :: ys.drop (j + 1) := by
              rw [List.drop_eq_getElem_cons hjt]
              rw [List.getElem?_eq_getElem hjt] at hyd
              cases hyd; rfl
            rw [hdrop1] at hgo5
            have ev6 := ev5.grow gr6
            have ac6 := ac5.step gr6 g6
            refine hg1 P5 G6 H6 v1 d1 (L2.wipe σ' vs1) (wipeE env' vs1) _ _ g6 (ev6.wipe vs1) rd1 hgo5 fun σ7 env7 ev7 hw7 hf7 => ?_
            refine ⟨by rw [hw7 vs1 hsl1]; exact wipe_wipe σ' vs1, ?_⟩
            refine ht1 P5 G6 H6 σ7 env7 _ _ g6 ev7 hf7 fun b8 P8 G8 H8 gr8 g8 hf8 => ?_
            have ac8 := ac6.step gr8 g8
            have ex8 := (ex5.trans gr6.ext).trans gr8.ext
            cases b8 with
            | false => exact ⟨P8, G8, acc5, accD5, ac8, ex8, ev6.grow gr8, Nat.le_succ_of_le hal5, hf8⟩
            | true =>
              refine he P8 G8 H8 σ7 env7 _ _ g8 (ev7.grow gr8) hf8 fun y P9 G9 H9 dy gr9 g9 ry hf9 => ?_
              have ac9 := ac8.step gr9 g9
              obtain ⟨w1', w2', w3', w4', w5', w6'⟩ := ac9
              refine ⟨acc5, w5', by omega, P9, G9, acc5 ++ [y], accD5 ++ [dy], ⟨w1'.put hD, w2'.put w3' w4', w3', w4', upd_same, ?_⟩, ex8.trans gr9.ext, (ev6.grow gr8).grow gr9, by rw [List.length_append]; exact Nat.succ_le_succ hal5, ?_⟩
              · rw [← List.append_assoc]; exact w6'.append (.cons ry .nil)
              · simpa only [List.append_assoc, List.singleton_append] using hf9
        · have ej : j = ys.length := by omega
          subst ej
          rw [List.drop_length] at hgo5
          refine .inl ⟨(it1.2 _ P5 G5 H5 ex5 ac5.2.1 (hS1 _ _ _ ac5.1)).2 rfl, P5, G5, acc5, accD ++ accD5, ac5, by omega, ?_⟩
          have hgo6 : go2 φ t1 (iDk i0) φ1 t2 f vs1 (wipeE env vs) (xs.drop (i + 1)) (accD.length + (accD5 ++ []).length) P5.n fun ws n4 => Q (accD ++ ((accD5 ++ []) ++ ws)) n4 := by simpa only [goD] using hgo5
          simpa [List.append_assoc] using hgo6
  · have e : i = xs.length := by omega
    subst e
    refine .inl ⟨(it.2 _ P' G' H' gr.ext ac.2.1 (hS _ _ _ gr)).2 rfl, ?_⟩
    rw [List.drop_length] at hgo
    have hq' : Q accD P'.n := by
      have : Q (accD ++ []) P'.n := hgo
      simpa using this
    exact hR Dl P' G' H' acc accD gr ac.2.1 hD ac.2.2.1 ac.2.2.2.1 ac.2.2.2.2.1 (by omega) ac.2.2.2.2.2 hq'
theorem lc2K_lift {i : Nat} {w w1 : TI} {g g1 : TG} {tt tt1 : TT} {te : TE} {vs vs1 sl sl1 : List Nat} {φ φ1 : FG} (hi : RdK κ i w) (hg : LiftG κ g sl φ) (ht : RdT κ t1 tt) (hi1 : RdK κ i w1) (hg1 : LiftG κ g1 sl1 φ1) (ht1 : RdT κ t2 tt1) (he : RdE κ f te) (hsl : ∀ i ∈ sl, i ∈ vs) (hsl1 : ∀ i ∈ sl1, i ∈ vs1) (hni : i ∉ vs) :
    RdO κ (oComp2 (iDk i) φ t1 (iDk i) φ1 t2 f vs vs1) (tLk (tLc2 w g tt w1 g1 tt1 te vs vs1)) := by
  intro P G H σ env Q R good ev hf hR
  obtain ⟨xs, vs0, he0, hq⟩ := id hf
  obtain ⟨v0, hσ, r⟩ := ev.get i _ he0
  cases r with
  | @dctT a kk us _ hGa hl z nd r =>
  have hia : P.iv a = none := by
    cases e : P.iv a with
    | none => rfl
    | some t => rw [(good.gi a t e).1] at hGa; cases hGa
  rcases good.gh a _ hGa with hHa | ⟨_, od, hHa⟩
  · refine .inl ⟨a, _, hHa, trivial, fun od => ?_⟩
    have gl : Good κ P G (upd H a (.frz od (.dT (kk.zip us)))) := good.lock hGa rfl
    refine lc2K_body (R := fun v H' => H' a = some (.frz od (.dT (kk.zip us))) ∧ R v (upd H' a (.dT (kk.zip us)))) hi hg ht hi1 hg1 ht1 he hsl hsl1 hni gl ev hσ hGa hia upd_same hf ?_
    intro b P' G' H' vs' xs' gr g' hb hgb hib hhb hz r hq'
    have hba : b ≠ a := fun e => by subst e; rw [upd_same] at hb; cases hb
    rw [upd_ne hba] at hb
    refine ⟨gr.h a _ upd_same hia, ?_⟩
    exact hR b P' G' (upd H' a _) vs' xs' (Grow.unlock hHa gr) (g'.unlock (gr.g _ _ hGa)) hb hgb hib (by rw [upd_ne hba]; exact hhb) hz r hq'
  · exact .inr (lc2K_body hi hg ht hi1 hg1 ht1 he hsl hsl1 hni good ev hσ hGa hia hHa hf hR)
def tK (κ : Kit) (i : Nat) : TI := fun σ H R => ∃ (a : Addr) (kk : List (List Key)) (us : List V) (od : Obj) (P : Wd) (G : Hp), Good κ P G H ∧ σ[i]? = some (some (.ref a)) ∧ H a = some (.frz od (.dT (kk.zip us))) ∧ G a = some (.dT (kk.zip us)) ∧ kk.length = us.length ∧ kk.length ≤ sizeLine ∧ OkKt kk ∧
  (∀ J, IterS κ (fun H' => H' a = some (.frz od (.dT (kk.zip us)))) J P G (kk.map fun k => D.tup (k.map keyD)) → R J H)
theorem DKt.can {Y : Cx} {it : Expr} {i : Nat} (h : DKt κ Y tg it i) : PI Y tg it (tK κ i) := by
  obtain ⟨w, p, q⟩ := h
  exact ⟨fun pins s σ H R I ⟨a, kk, us, od, P, G, h1, h2, h3, h4, h5, h6, h7, h8⟩ => p.run pins s σ H R I (q a kk us od P G H σ R h1 h2 h3 h4 h5 h6 h7 h8)⟩
theorem rd_tK {i : Nat} : RdK κ i (tK κ i) := fun a kk us od P G H σ R h1 h2 h3 h4 h5 h6 h7 h8 => ⟨a, kk, us, od, P, G, h1, h2, h3, h4, h5, h6, h7, h8⟩
variable {iter iter1 tg1 elt : Expr} {ifs ifs1 : List Expr} {scope : Scope} {sl sl1 vs1 : List Nat} {φ φ1 : FG}
theorem o_comp2K (i : Nat) (own : List (Str × Nat)) (vs1 : List Nat) (hN : X.N.Nodup) (hi : DKt κ X tg iter i)
    (hg : ∀ (s : Shared) (H : Hp) (C : Addr) (cl : List (Str × Addr)) (fp : List Addr), DG κ (X.blk s H scope (compEnvC scope cl C X.env) fp) tg sl φ)
    (ht : ∀ (s : Shared) (H : Hp) (C : Addr) (cl : List (Str × Addr)) (fp : List Addr), DTs κ (X.blk s H scope (compEnvC scope cl C X.env) fp) ifs t1)
    (hi1 : ∀ (s : Shared) (H : Hp) (C : Addr) (cl : List (Str × Addr)) (fp : List Addr), DKt κ (X.blk s H scope (compEnvC scope cl C X.env) fp) tg1 iter1 i)
    (hg1 : ∀ (s : Shared) (H : Hp) (C : Addr) (cl : List (Str × Addr)) (fp : List Addr), DG κ (X.blk s H scope (compEnvC scope cl C X.env) fp) tg1 sl1 φ1)
    (ht1 : ∀ (s : Shared) (H : Hp) (C : Addr) (cl : List (Str × Addr)) (fp : List Addr), DTs κ (X.blk s H scope (compEnvC scope cl C X.env) fp) ifs1 t2)
    (he : ∀ (s : Shared) (H : Hp) (C : Addr) (cl : List (Str × Addr)) (fp : List Addr), DE κ (X.blk s H scope (compEnvC scope cl C X.env) fp) elt f)
    (ok : blkC X.N X.env.scope scope own = true := by rfl) (hc : X.calm = true := by rfl) (hsl : ∀ i ∈ sl, i ∈ own.map (·.2) := by decide) (hsl1 : ∀ i ∈ sl1, i ∈ vs1 := by decide) (hv : ∀ i ∈ vs1, i ∈ own.map (·.2) := by decide) (hni : i ∉ own.map (·.2) := by decide) (hs : ∀ x, foldedSetIterable iter X.env x = pure x := by intro _; rfl) (hs1 : ∀ env x, foldedSetIterable iter1 env x = pure x := by intro _ _; rfl) : DO κ X (.ListComp elt [⟨tg, iter, ifs, 0⟩, ⟨tg1, iter1, ifs1, 0⟩] scope pos) (oComp2 (iDk i) φ t1 (iDk i) φ1 t2 f (own.map (·.2)) vs1) := by
  obtain ⟨w, pw, qw⟩ := hi
  exact ⟨_, PE.lk (pe_lc2 hc hN pw (blkOk_by ok) hv (fun s H C cl fp => (hg s H C cl fp).can) (fun s H C cl fp => (ht s H C cl fp).can) (fun s H C cl fp => (hi1 s H C cl fp).can) (fun s H C cl fp => (hg1 s H C cl fp).can) (fun s H C cl fp => (ht1 s H C cl fp).can) (fun s H C cl fp => (he s H C cl fp).can) hs hs1), lc2K_lift qw rd_tG rd_tT rd_tK rd_tG rd_tT rd_tE hsl hsl1 hni⟩
end
end DL
namespace DL
open PySem PySem.Spec PyProof.Rows L2
section
variable {κ : Kit} {X : Cx} {H0 : Hp} {P : Wd} {G H : Hp} {σ : L2.St} {env : SEnv} {st : Stmt} {s1 : FS}
theorem SEnvR.freezeT (ev : SEnvR κ H0 P G H σ env) (g : Good κ P G H) {i : Nat} {T : OT} (h : env[i]? = some (some (.tre T))) :
    ∃ G', (∀ P0 G0, Grow P0 G0 H0 P G H → Grow P0 G0 H0 P G' H) ∧ Good κ P G' H ∧ SEnvR κ H0 P G' H σ (env.set i (some (.val T.view))) := by
  obtain ⟨v, q1, r1, r2, r3⟩ := ev.get i _ h
  have hG : ∀ a ∈ T.own, G a = none := fun a ha => (r3 a ha).2.1
  refine ⟨frzS T.own G H, fun P0 G0 gr => gr.frzS fun a ha => ⟨(r3 a ha).1, hG a ha⟩, g.frzS fun a ha => (r3 a ha).2, ?_⟩
  refine ev.chg0 (s := .val T.view) q1 (r1.seen (frzS_sub hG) fun a ha o ho => by unfold frzS; rw [if_pos ha]; exact ho) (fun j t w hij hj hw r => ?_) fun _ h => h.elim
  refine r.to (frzS_sub hG) (fun _ _ h => h) fun b hb => ?_
  obtain ⟨k1, k2, k3, _⟩ := r.held hb
  have hba : b ∉ T.own := fun e => ev.apart i j _ _ _ _ b hij h hj q1 hw e hb
  exact ⟨fun _ h => h, k1, by unfold frzS; rw [if_neg hba]; exact k2, k3⟩
/-- ahead of a statement: the tree at slot i is a value from here on -/
@[simp] def sFrzT (i : Nat) (s : FS) : FS := fun D env n => ∃ T, env[i]? = some (some (.tre T)) ∧ s D (env.set i (some (.val T.view))) n
theorem d1_frzT (i : Nat) (h : D1 κ X st s1) : D1 κ X st (sFrzT i s1) := by
  obtain ⟨t, p, q⟩ := h
  refine ⟨t, p, fun P0 G0 H0 P G H σ env D E gr g ev hf ok => ?_⟩
  obtain ⟨T, h1, h2⟩ := hf
  obtain ⟨G', w1, w2, w3⟩ := ev.freezeT g h1
  exact q P0 G0 H0 P G' H σ _ D E (w1 P0 G0 gr) w2 w3 h2 ok
@[simp] def sFrzD (i : Nat) (s : FS) : FS := fun D env n => ∃ ks vs, env[i]? = some (some (.ownd ks vs)) ∧ s D (env.set i (some (.val (.dct ks vs)))) n
end
end DL
namespace K05
open PySem L2 DL
/-- is_whole(value), slots 0 value -/
def rd_is_whole : FS := (sRet (fAnd (fIsi .int (fVar 0)) (fNot (fIsi .bool (fVar 0)))))
/-- is_count(value, most), slots 0 value 1 most -/
def rd_is_count (F_is_whole : FC) : FS := (sRet (fAnd (fCall 1 F_is_whole [] (aCons (fVar 0) aNil)) (fAnd (f2 gGe (fVar 0) (fC (.int 0))) (fOr (f2 gIsN (fVar 1) (fC .non)) (f2 gLe (fVar 0) (fVar 1))))))
/-- is_text(value), slots 0 value 1 sign -/
def rd_is_text : FS := (sRet (fAnd (fIsi .str (fVar 0)) (fCl gAll (aCons (fFrz (oComp (iSeqN 0) (gN 1) tYesD (fChain gLe gLe (fC (.str [97])) (fVar 1) (fC (.str [122]))) [1])) aNil))))
/-- is_word(value), slots 0 value -/
def rd_is_word (F_is_text : FC) : FS := (sRet (fAnd (fCall 1 F_is_text [] (aCons (fVar 0) aNil)) (f2 gNe (fVar 0) (fC (.str [])))))
/-- check_text(value), slots 0 value -/
def rd_check_text (F_is_text : FC) : FS := (sIf (tNotD (tTru (fCall 1 F_is_text [] (aCons (fVar 0) aNil)))) sNever sNext)
/-- check_from(value, least), slots 0 value 1 least -/
def rd_check_from (F_is_count : FC) : FS := (sIf (tOrD (tNotD (tTru (fCall 2 F_is_count [.non] (aCons (fVar 0) aNil)))) (tVal (f2 gLt (fVar 0) (fVar 1)))) sNever sNext)
/-- has(text, period), slots 0 text 1 period -/
def rd_has : FS := (sRet (fAnd (f2 gLt (fVar 1) (fCl gLen (aCons (fVar 0) aNil))) (f2 gEq (fSl (fVar 0) (oSo (fVar 1)) oNo) (fSl (fVar 0) oNo (oSo (f2 gSub (fCl gLen (aCons (fVar 0) aNil)) (fVar 1)))))))
/-- divisor(one, other), slots 0 one 1 other -/
def rd_divisor : FS := (sSeq (sWhile (tVal (f2 gGt (fVar 1) (fC (.int 0)))) (sPar [0, 1] (xCons (xV (fVar 1)) (xCons (xV (f2 gMod (fVar 0) (fVar 1))) xNil)))) (sRet (fVar 0)))
/-- meeting_length(one, other), slots 0 one 1 other -/
def rd_meeting_length (F_check_from : FC) (F_divisor : FC) : FS := (sSeq (sDrop (fCall 2 F_check_from [] (aCons (fVar 0) (aCons (fC (.int 1)) aNil)))) (sSeq (sDrop (fCall 2 F_check_from [] (aCons (fVar 1) (aCons (fC (.int 1)) aNil)))) (sRet (f2 gSub (f2 gAdd3 (fVar 0) (fVar 1)) (fCall 2 F_divisor [] (aCons (fVar 0) (aCons (fVar 1) aNil)))))))
/-- linked(length, one, other), slots 0 length 1 one 2 other 3 found 4 spin 5 at 6 some 7 late -/
def rd_linked : FS := (sSeq (sAsgO 3 (oListR1 (fVar 0))) (sSeq (sFor (iRange1 (aCons (fVar 0) aNil)) (nN 4) (sFor (iRange1 (aCons (fVar 0) aNil)) (nN 5) (sSeq (sAsgFV 6 (oComp (iSeq (fTup (aCons (f2 gSub (fVar 5) (fVar 1)) (aCons (f2 gSub (fVar 5) (fVar 2)) (aCons (f2 gAdd3 (fVar 5) (fVar 1)) (aCons (f2 gAdd3 (fVar 5) (fVar 2)) aNil)))))) (gN 7) (tVal (fChain gLe gLt (fC (.int 0)) (fVar 7) (fVar 0))) (f2 gIx (fVar 3) (fVar 7)) [7])) (sSet 3 (fCl gMin (aCons (fFrz (oLst (aCons (f2 gIx (fVar 3) (fVar 5)) (aStar (fVar 6) aNil)))) aNil)) (fVar 5))))) (sRetS 3)))
/-- two_period_word(one, other), slots 0 one 1 other 2 length 3 part 4 heads 5 some 6 at 7 head -/
def rd_two_period_word (F_divisor : FC) (F_linked : FC) (F_meeting_length : FC) : FS := (sSeq (sPar [2, 3] (xCons (xV (f2 gSub (fCall 2 F_meeting_length [] (aCons (fVar 0) (aCons (fVar 1) aNil))) (fC (.int 1)))) (xCons (xV (fCall 2 F_divisor [] (aCons (fVar 0) (aCons (fVar 1) aNil)))) xNil))) (sSeq (sAsg 4 (fCall 3 F_linked [] (aCons (fVar 2) (aCons (fVar 0) (aCons (fVar 1) aNil))))) (sSeq (sAsg 5 (fFrz (oComp (iRange1 (aCons (f2 gSub (fVar 2) (fVar 3)) aNil)) (gN 6) (tVal (f2 gNe (f2 gIx (fVar 4) (fVar 6)) (f2 gIx (fVar 4) (f2 gAdd3 (fVar 6) (fVar 3))))) (fVar 6) [6]))) (sSeq (sIf (tVal (f2 gEq (fVar 5) (fFrz (oLst aNil)))) (sRet (fC .non)) sNext) (sRet (fM1 gJoin (fC (.str [])) (fFrz (oComp (iSeqN 4) (gN 7) tYesD (fIf (tVal (f2 gEq (fVar 7) (f2 gIx (fVar 4) (f2 gIx (fVar 5) (fC (.int 0)))))) (fC (.str [97])) (fC (.str [98]))) [7]))))))))
/-- is_two_period_word(one, other, value), slots 0 one 1 other 2 value 3 length 4 part 5 period -/
def rd_is_two_period_word (F_divisor : FC) (F_has : FC) (F_is_word : FC) (F_meeting_length : FC) : FS := (sSeq (sPar [3, 4] (xCons (xV (f2 gSub (fCall 2 F_meeting_length [] (aCons (fVar 0) (aCons (fVar 1) aNil))) (fC (.int 1)))) (xCons (xV (fCall 2 F_divisor [] (aCons (fVar 0) (aCons (fVar 1) aNil)))) xNil))) (sSeq (sIf (tOrD (tNotD (tTru (fCall 1 F_is_word [] (aCons (fVar 2) aNil)))) (tOrD (tVal (f2 gNe (fCl gLen (aCons (fVar 2) aNil)) (fVar 3))) (tOrD (tVal (f2 gGe (fVar 4) (fVar 3))) (tTru (fCall 2 F_has [] (aCons (fVar 2) (aCons (fVar 4) aNil))))))) (sRet (fC (.bl false))) sNext) (sRet (fCl gAll (aCons (fFrz (oComp (iSeq (fTup (aCons (fVar 0) (aCons (fVar 1) aNil)))) (gN 5) tYesD (fOr (f2 gGe (fVar 5) (fVar 3)) (fCall 2 F_has [] (aCons (fVar 2) (aCons (fVar 5) aNil)))) [5])) aNil)))))
/-- rows_of(text, period), slots 0 text 1 period 2 found 3 first 4 at 5 is_alike -/
def rd_rows_of : FS := (sSeq (sPar [2, 3] (xCons (xO (oLst aNil)) (xCons (xV (fC .non)) xNil))) (sSeq (sFor (iRange1 (aCons (f2 gAdd3 (f2 gSub (fCl gLen (aCons (fVar 0) aNil)) (fVar 1)) (fC (.int 1))) aNil)) (nN 4) (sSeq (sAsg 5 (fAnd (f2 gLt (f2 gAdd3 (fVar 4) (fVar 1)) (fCl gLen (aCons (fVar 0) aNil))) (f2 gEq (f2 gIx (fVar 0) (fVar 4)) (f2 gIx (fVar 0) (f2 gAdd3 (fVar 4) (fVar 1)))))) (sSeq (sIf (tAndD (tTru (fVar 5)) (tVal (f2 gIsN (fVar 3) (fC .non)))) (sAsg 3 (fVar 4)) sNext) (sIf (tAndD (tNotD (tTru (fVar 5))) (tVal (f2 gNotN (fVar 3) (fC .non)))) (sSeq (sApp 2 (fTup (aCons (fVar 3) (aCons (f2 gSub (f2 gAdd3 (fVar 4) (fVar 1)) (fC (.int 1))) aNil)))) (sAsg 3 (fC .non))) sNext)))) (sRetS 2)))
/-- stretches_in(text, below, least), slots 0 text 1 below 2 least 3 found 4 period 5 inner 6 first 7 last 8 one 9 late -/
def rd_stretches_in (F_rows_of : FC) : FS := (sSeq (sAsgX 3 xDctT) (sSeq (sFor (iRange3 (aCons (f2 gSub (fCl gMin (aCons (fVar 1) (aCons (fCl gLen (aCons (fVar 0) aNil)) aNil))) (fC (.int 1))) (aCons (fC (.int 0)) (aCons (f1 gNeg (fC (.int 1))) aNil)))) (nN 4) (sFor (iSeq (fCall 2 F_rows_of [] (aCons (fVar 0) (aCons (fVar 4) aNil)))) (nT 2 (nsCons (nN 6) (nsCons (nN 7) nsNil))) (sIf (tVal (f2 gGe (f2 gAdd3 (f2 gSub (fVar 7) (fVar 6)) (fC (.int 1))) (fVar 2))) (sSetT 3 (fVar 4) (fTup (aCons (fVar 6) (aCons (fVar 7) aNil)))) sNext))) (sSeq (sFrzT 3 (sAsg 5 (fFrz (oComp2 (iDk 3) (gN 8) tYesD (iDk 3) (gN 9) (tAndD (tVal (f2 gNe (fVar 9) (fVar 8))) (tAndD (tVal (f2 gLe (f2 gIx (fVar 9) (fC (.int 0))) (f2 gIx (fVar 8) (fC (.int 0))))) (tVal (f2 gLe (f2 gIx (fVar 8) (fC (.int 1))) (f2 gIx (fVar 9) (fC (.int 1))))))) (fVar 8) [8, 9] [9])))) (sRetO (oCl oSortedC (aCons (fFrz (oComp (iSeqN 3) (gN 8) (tVal (f2 gNotInP (fVar 8) (fVar 5))) (fTup (aStar (fVar 8) (aCons (f2 gIx (fVar 3) (fVar 8)) aNil))) [8])) aNil))))))
/-- stretches(text, below, least), slots 0 text 1 below 2 least -/
def rd_stretches (F_check_from : FC) (F_check_text : FC) (F_stretches_in : FC) : FS := (sSeq (sDrop (fCall 1 F_check_text [] (aCons (fVar 0) aNil))) (sSeq (sDrop (fCall 2 F_check_from [] (aCons (fVar 1) (aCons (fC (.int 2)) aNil)))) (sSeq (sDrop (fCall 2 F_check_from [] (aCons (fVar 2) (aCons (fC (.int 2)) aNil)))) (sSeq (sIf (tVal (f2 gLt (fVar 2) (f2 gSub (f2 gMul (fC (.int 2)) (fVar 1)) (fC (.int 3))))) sNever sNext) (sRetO (oCall 3 F_stretches_in [] (aCons (fVar 0) (aCons (fVar 1) (aCons (fVar 2) aNil)))))))))
/-- _law_dice(script, at), slots 0 script 1 at 2 seed -/
def rd__law_dice : FS := (sSeq (sAsg 2 (fCl gSum (aCons (fSl (fVar 0) (oSo (fVar 1)) (oSo (f2 gAdd3 (fVar 1) (fC (.int 1))))) aNil))) (sRetO (oLst (aCons (f2 gMod (fCl gInt (aCons (fCl gMax (aCons (f2 gSub (fVar 2) (f2 gPow (fC (.int 10)) (fC (.int 18)))) (aCons (fC (.int 0)) aNil))) aNil)) (f2 gPow (f2 gPow (fC (.int 10)) (fC (.int 60))) (fC (.int 8)))) (aCons (f2 gMod (fCl gInt (aCons (fVar 2) aNil)) (fC (.int 2147483629))) (aCons (fC (.int 0)) (aCons (fVar 1) aNil)))))))
/-- _law_mixed(seed, spin, at), slots 0 seed 1 spin 2 at 3 mixed -/
def rd__law_mixed : FS := (sSeq (sAsg 3 (f2 gAdd3 (f2 gMul (fVar 0) (fC (.int 69069))) (f2 gMul (f2 gMul (fC (.int 104729)) (fVar 1)) (fVar 1)))) (sSeq (sAsg 3 (f2 gMod (fCl gInt (aCons (f2 gAdd3 (f2 gAdd3 (fVar 3) (f2 gMul (fC (.int 7919)) (fVar 2))) (fVar 1)) aNil)) (fC (.int 2147483647)))) (sSeq (sAsg 3 (f2 gMod (fCl gInt (aCons (f2 gAdd3 (f2 gMul (fVar 3) (fVar 3)) (fC (.int 40503))) aNil)) (fC (.int 2147483629)))) (sRet (f2 gMod (fCl gInt (aCons (f2 gMul (fVar 3) (fC (.int 48271))) aNil)) (fC (.int 2147483587)))))))
/-- _law_draw(dice, many), slots 0 dice 1 many 2 found 3 piece 4 drawn -/
def rd__law_draw (F__law_mixed : FC) : FS := (sSeq (sIf (tVal (f2 gGt (fIxB 0 0) (fC (.int 0)))) (sSeq (sAsg 4 (f2 gMod (fCl gInt (aCons (fIxB 0 0) aNil)) (fVar 1))) (sSeq (sSetB 0 0 (f2 gDiv (fIxB 0 0) (fVar 1))) (sRet (fVar 4)))) sNext) (sSeq (sAsg 2 (fC (.int 0))) (sSeq (sFor (iRange1 (aCons (f2 gAdd3 (fC (.int 1)) (f2 gDiv (f1 gBits (fVar 1)) (fC (.int 28)))) aNil)) (nN 3) (sSeq (sSetB 0 2 (f2 gAdd3 (fIxB 0 2) (fC (.int 1)))) (sAsg 2 (f2 gAdd3 (f2 gMul (fVar 2) (fC (.int 2147483587))) (fCall 3 F__law_mixed [] (aCons (fIxB 0 1) (aCons (fIxB 0 2) (aCons (fIxB 0 3) aNil)))))))) (sRet (f2 gMod (fCl gInt (aCons (fVar 2) aNil)) (fVar 1))))))
/-- _law_one_of(dice, some), slots 0 dice 1 some -/
def rd__law_one_of (F__law_draw : FC) : FS := (sRet (f2 gIx (fVar 1) (fCall 2 F__law_draw [] (aCons (fVar 0) (aCons (fCl gLen (aCons (fVar 1) aNil)) aNil)))))
/-- _law_exact(mine, theirs), slots 0 mine 1 theirs 2 is_like 3 a 4 b 5 key -/
def rd__law_exact (F__law_exact : FC) : FS := (sSeq (sIf (tVal (fIsiT [.list, .tuple] (fVar 0))) (sSeq (sAsg 2 (fAnd (f2 gEq (fIsi .list (fVar 1)) (fIsi .list (fVar 0))) (f2 gEq (fIsi .tuple (fVar 1)) (fIsi .tuple (fVar 0))))) (sRet (fAnd (fVar 2) (fAnd (f2 gEq (fCl gLen (aCons (fVar 0) aNil)) (fCl gLen (aCons (fVar 1) aNil))) (fCl gAll (aCons (fFrz (oComp (iZipD (aCons (fVar 0) (aCons (fVar 1) aNil))) (gT 2 (gsCons (gN 3) (gsCons (gN 4) gsNil))) tYesD (fCall 2 F__law_exact [] (aCons (fVar 3) (aCons (fVar 4) aNil))) [3, 4])) aNil)))))) sNext) (sSeq (sIf (tVal (fIsi .dict (fVar 0))) (sSeq (sAsg 2 (fAnd (fIsi .dict (fVar 1)) (fCall 2 F__law_exact [] (aCons (fFrz (oCl oList (aCons (fVar 0) aNil))) (aCons (fFrz (oCl oList (aCons (fVar 1) aNil))) aNil))))) (sRet (fAnd (fVar 2) (fCl gAll (aCons (fFrz (oComp (iSeqN 0) (gN 5) tYesD (fCall 2 F__law_exact [] (aCons (f2 gIx (fVar 0) (fVar 5)) (aCons (f2 gIx (fVar 1) (fVar 5)) aNil))) [5])) aNil))))) sNext) (sSeq (sIf (tOrD (tVal (fIsiT [.list, .tuple, .dict] (fVar 1))) (tVal (f2 gNe (f2 gIsN (fVar 0) (fC .non)) (f2 gIsN (fVar 1) (fC .non))))) (sRet (fC (.bl false))) sNext) (sSeq (sAsg 2 (fAnd (f2 gEq (fIsi .int (fVar 0)) (fIsi .int (fVar 1))) (f2 gEq (fIsi .str (fVar 0)) (fIsi .str (fVar 1))))) (sRet (fAnd (fVar 2) (fAnd (f2 gEq (fIsi .bool (fVar 0)) (fIsi .bool (fVar 1))) (f2 gEq (fVar 0) (fVar 1)))))))))
/-- _law_dices(script, few), slots 0 script 1 few 2 at -/
def rd__law_dices (F__law_dice : FC) : FS := (sRetO (oComp (iRange1 (aCons (fCl gMax (aCons (fC (.int 1)) (aCons (fCl gMin (aCons (fVar 1) (aCons (fCl gLen (aCons (fVar 0) aNil)) aNil))) aNil))) aNil)) (gN 2) tYesD (fCall 2 F__law_dice [] (aCons (fVar 0) (aCons (fVar 2) aNil))) [2]))
/-- _law_letters(dice, many), slots 0 dice 1 many 2 found 3 spin 4 late 5 sign -/
def rd__law_letters (F__law_draw : FC) : FS := (sSeq (sAsgO 2 (oLst aNil)) (sSeq (sFor (iRange1 (aCons (fVar 1) aNil)) (nN 3) (sSeq (sAsg 4 (f2 gIx (fC (.str [97, 98, 99, 100, 101, 102, 103, 104, 105, 106, 107, 108, 109, 110, 111, 112, 113, 114, 115, 116, 117, 118, 119, 120, 121, 122])) (fCall 2 F__law_draw [] (aCons (fVar 0) (aCons (fC (.int 26)) aNil))))) (sAppV 2 (fIf (tVal (f2 gNotIn (fVar 4) (fVar 2))) (fVar 4) (f2 gIx (fFrz (oComp (iSeq (fFrz (oCl oList (aCons (fC (.str [97, 98, 99, 100, 101, 102, 103, 104, 105, 106, 107, 108, 109, 110, 111, 112, 113, 114, 115, 116, 117, 118, 119, 120, 121, 122])) aNil)))) (gN 5) (tVal (f2 gNotIn (fVar 5) (fVar 2))) (fVar 5) [5])) (fC (.int 0))))))) (sRetV (fM1 gJoin (fC (.str [])) (fFrz (oCl oSorted (aCons (fVar 2) aNil)))))))
/-- _law_ground(dice, most), slots 0 dice 1 most 2 some 3 many 4 signs 5 gap 6 at -/
def rd__law_ground (F__law_draw : FC) (F__law_letters : FC) (F__law_one_of : FC) : FS := (sSeq (sAsg 2 (fFrz (oLst (aCons (fTup (aCons (fC (.int 2)) (aCons (fC (.int 2)) aNil))) (aCons (fTup (aCons (fC (.int 3)) (aCons (fC (.int 2)) aNil))) (aCons (fTup (aCons (fC (.int 2)) (aCons (fC (.int 3)) aNil))) (aCons (fTup (aCons (fC (.int 4)) (aCons (fC (.int 2)) aNil))) (aCons (fTup (aCons (fC (.int 5)) (aCons (fC (.int 2)) aNil))) (aCons (fTup (aCons (fC (.int 2)) (aCons (fC (.int 4)) aNil))) (aCons (fTup (aCons (fC (.int 3)) (aCons (fC (.int 3)) aNil))) aNil)))))))))) (sSeq (sAsg 3 (fFrz (oLst (aCons (fC (.int 2)) (aCons (fC (.int 6)) (aCons (fC (.int 12)) (aCons (fC (.int 12)) (aCons (fC (.int 20)) (aCons (fC (.int 54)) (aCons (fC (.int 72)) aNil)))))))))) (sSeq (sUnp (nT 2 (nsCons (nN 4) (nsCons (nN 5) nsNil))) (fCall 2 F__law_one_of [] (aCons (fVar 0) (aCons (fFrz (oComp (iRange1 (aCons (fC (.int 7)) aNil)) (gN 6) (tVal (f2 gLe (f2 gIx (fVar 3) (fVar 6)) (fVar 1))) (f2 gIx (fVar 2) (fVar 6)) [6])) aNil)))) (sRet (fTup (aCons (fIf (tVal (f2 gEq (fCall 2 F__law_draw [] (aCons (fVar 0) (aCons (fC (.int 2)) aNil))) (fC (.int 0)))) (fCall 2 F__law_letters [] (aCons (fVar 0) (aCons (fVar 4) aNil))) (fSl (fC (.str [97, 98, 99, 100, 101, 102, 103, 104])) oNo (oSo (fVar 4)))) (aCons (fVar 5) aNil)))))))
/-- _law_words_of(signs, size), slots 0 signs 1 size 2 found 3 spin 4 longer 5 word 6 sign -/
def rd__law_words_of : FS := (sSeq (sAsg 2 (fFrz (oLst (aCons (fC (.str [])) aNil)))) (sSeq (sFor (iRange1 (aCons (fVar 1) aNil)) (nN 3) (sSeq (sAsg 4 (fFrz (oLst aNil))) (sSeq (sFor (iSeqN 2) (nN 5) (sAsg 4 (f2 gAdd3 (fVar 4) (fFrz (oComp (iSeq (fFrz (oCl oList (aCons (fVar 0) aNil)))) (gN 6) tYesD (f2 gAdd3 (fVar 5) (fVar 6)) [6]))))) (sAsg 2 (fVar 4))))) (sRet (fVar 2))))
/-- _law_text(dice, ground, most), slots 0 dice 1 ground 2 most 3 signs 4 found 5 size 6 way 7 word 8 spin -/
def rd__law_text (F__law_draw : FC) (F__law_one_of : FC) : FS := (sSeq (sPar [3, 4] (xCons (xV (fFrz (oCl oList (aCons (f2 gIx (fVar 1) (fC (.int 0))) aNil)))) (xCons (xV (fC (.str []))) xNil))) (sSeq (sAsg 5 (fCall 2 F__law_draw [] (aCons (fVar 0) (aCons (f2 gAdd3 (fVar 2) (fC (.int 1))) aNil)))) (sSeq (sWhile (tVal (f2 gLt (fCl gLen (aCons (fVar 4) aNil)) (fVar 5))) (sSeq (sAsg 6 (fCall 2 F__law_draw [] (aCons (fVar 0) (aCons (fC (.int 4)) aNil)))) (sIf (tVal (f2 gEq (fVar 6) (fC (.int 0)))) (sSeq (sAsg 7 (fM1 gJoin (fC (.str [])) (fFrz (oComp (iRange1 (aCons (f2 gAdd3 (fC (.int 1)) (fCall 2 F__law_draw [] (aCons (fVar 0) (aCons (f2 gIx (fVar 1) (fC (.int 1))) aNil)))) aNil)) (gN 8) tYesD (fCall 2 F__law_one_of [] (aCons (fVar 0) (aCons (fVar 3) aNil))) [8])))) (sAsg 4 (f2 gAdd3 (fVar 4) (f2 gMul (fVar 7) (f2 gAdd3 (fC (.int 1)) (fCall 2 F__law_draw [] (aCons (fVar 0) (aCons (fC (.int 4)) aNil)))))))) (sIf (tVal (f2 gEq (fVar 6) (fC (.int 1)))) (sAsg 4 (f2 gAdd3 (fVar 4) (f2 gMul (f2 gIx (fVar 3) (fC (.int 0))) (f2 gAdd3 (fC (.int 1)) (fCall 2 F__law_draw [] (aCons (fVar 0) (aCons (fC (.int 3)) aNil))))))) (sAsg 4 (f2 gAdd3 (fVar 4) (fM1 gJoin (fC (.str [])) (fFrz (oComp (iRange1 (aCons (f2 gAdd3 (fC (.int 1)) (fCall 2 F__law_draw [] (aCons (fVar 0) (aCons (fC (.int 4)) aNil)))) aNil)) (gN 8) tYesD (fCall 2 F__law_one_of [] (aCons (fVar 0) (aCons (fVar 3) aNil))) [8]))))))))) (sRet (fSl (fVar 4) oNo (oSo (fVar 5)))))))
/-- _law_divisor(one, other), slots 0 one 1 other 2 late -/
def rd__law_divisor : FS := (sRet (fCl gMax (aCons (fFrz (oComp (iRange2 (aCons (fC (.int 1)) (aCons (f2 gAdd3 (fCl gMin (aCons (fVar 0) (aCons (fVar 1) aNil))) (fC (.int 1))) aNil))) (gN 2) (tAndD (tVal (f2 gEq (f2 gMod (fCl gInt (aCons (fVar 0) aNil)) (fVar 2)) (fC (.int 0)))) (tVal (f2 gEq (f2 gMod (fCl gInt (aCons (fVar 1) aNil)) (fVar 2)) (fC (.int 0))))) (fVar 2) [2])) aNil)))
/-- _law_has(word, period), slots 0 word 1 period -/
def rd__law_has : FS := (sRet (fOr (f2 gGe (fVar 1) (fCl gLen (aCons (fVar 0) aNil))) (f2 gEq (fSl (fVar 0) (oSo (fVar 1)) oNo) (fSl (fVar 0) oNo (oSo (f2 gSub (fCl gLen (aCons (fVar 0) aNil)) (fVar 1)))))))
/-- _law_is_two(one, other, value), slots 0 one 1 other 2 value 3 part 4 sign -/
def rd__law_is_two (F__law_divisor : FC) (F__law_has : FC) : FS := (sSeq (sAsg 3 (fCall 2 F__law_divisor [] (aCons (fVar 0) (aCons (fVar 1) aNil)))) (sSeq (sIf (tOrD (tNotD (tVal (fIsi .str (fVar 2)))) (tOrD (tVal (f2 gEq (fVar 2) (fC (.str [])))) (tNotD (tVal (fCl gAll (aCons (fFrz (oComp (iSeq (fFrz (oCl oList (aCons (fVar 2) aNil)))) (gN 4) tYesD (f2 gIn (fVar 4) (fC (.str [97, 98, 99, 100, 101, 102, 103, 104, 105, 106, 107, 108, 109, 110, 111, 112, 113, 114, 115, 116, 117, 118, 119, 120, 121, 122]))) [4])) aNil)))))) (sRet (fC (.bl false))) sNext) (sRet (fAnd (f2 gEq (fCl gLen (aCons (fVar 2) aNil)) (f2 gSub (f2 gSub (f2 gAdd3 (fVar 0) (fVar 1)) (fVar 3)) (fC (.int 1)))) (fAnd (fCall 2 F__law_has [] (aCons (fVar 2) (aCons (fVar 0) aNil))) (fAnd (fCall 2 F__law_has [] (aCons (fVar 2) (aCons (fVar 1) aNil))) (fNot (fCall 2 F__law_has [] (aCons (fVar 2) (aCons (fVar 3) aNil))))))))))
/-- _law_pair_right(dice, one, other), slots 0 dice 1 one 2 other 3 part 4 told 5 some 6 at 7 odds 8 size 9 short 10 spot 11 head 12 value 13 sign 14 spin -/
def rd__law_pair_right (F__law_divisor : FC) (F__law_draw : FC) (F__law_exact : FC) (F__law_is_two : FC) (F__law_one_of : FC) (F_is_two_period_word : FC) (F_meeting_length : FC) (F_two_period_word : FC) : FS := (sSeq (sPar [3, 4] (xCons (xV (fCall 2 F__law_divisor [] (aCons (fVar 1) (aCons (fVar 2) aNil)))) (xCons (xV (fCall 2 F_two_period_word [] (aCons (fVar 1) (aCons (fVar 2) aNil)))) xNil))) (sSeq (sIf (tNotD (tTru (fCall 2 F__law_exact [] (aCons (fFrz (oLst (aCons (fCall 2 F_meeting_length [] (aCons (fVar 1) (aCons (fVar 2) aNil))) (aCons (f2 gIsN (fVar 4) (fC .non)) aNil)))) (aCons (fFrz (oLst (aCons (f2 gSub (f2 gAdd3 (fVar 1) (fVar 2)) (fVar 3)) (aCons (f2 gIn (fVar 3) (fTup (aCons (fVar 1) (aCons (fVar 2) aNil)))) aNil)))) aNil))))) (sRet (fC (.bl false))) sNext) (sSeq (sIf (tAndD (tVal (f2 gNotN (fVar 4) (fC .non))) (tNotD (tTru (fCall 3 F__law_is_two [] (aCons (fVar 1) (aCons (fVar 2) (aCons (fVar 4) aNil))))))) (sRet (fC (.bl false))) sNext) (sSeq (sAsg 5 (fIf (tVal (f2 gNotN (fVar 4) (fC .non))) (fVar 4) (f2 gMul (fC (.str [97, 98])) (fC (.int 6))))) (sSeq (sAsg 6 (fCall 2 F__law_draw [] (aCons (fVar 0) (aCons (fCl gLen (aCons (fVar 5) aNil)) aNil)))) (sSeq (sAsgO 7 (oLst (aCons (fVar 5) (aCons (fRev (fVar 5)) (aCons (f2 gAdd3 (fVar 5) (fC (.str [97]))) (aCons (fSl (fVar 5) (oSo (fC (.int 1))) oNo) (aCons (f2 gAdd3 (f2 gAdd3 (fSl (fVar 5) oNo (oSo (fVar 6))) (fC (.str [99]))) (fSl (fVar 5) (oSo (f2 gAdd3 (fVar 6) (fC (.int 1)))) oNo)) (aCons (f1 gUpper (fVar 5)) (aCons (fFrz (oCl oList (aCons (fVar 5) aNil))) (aCons (fC .non) (aCons (fC (.int 0)) (aCons (fC (.str [])) aNil)))))))))))) (sSeq (sFrz 7 (sAsgO 7 (f2O oAdd (fVar 7) (fFrz (oLst (aCons (fTup (aCons (fVar 5) aNil)) (aCons fDct0 (aCons (f2 gMul (fC (.str [97])) (f2 gSub (f2 gSub (f2 gAdd3 (fVar 1) (fVar 2)) (fVar 3)) (fC (.int 1)))) aNil)))))))) (sSeq (sApp 7 (fM1 gJoin (fC (.str [])) (fFrz (oComp (iSeq (fFrz (oCl oList (aCons (fVar 5) aNil)))) (gN 13) tYesD (f2 gIx (fFrz (oLst (aCons (fC (.str [121])) (aCons (fC (.str [120])) aNil)))) (fCl gInt (aCons (f2 gEq (fVar 13) (fC (.str [97]))) aNil))) [13])))) (sSeq (sApp 7 (fM1 gJoin (fC (.str [])) (fFrz (oComp (iSeq (fFrz (oCl oList (aCons (fVar 5) aNil)))) (gN 13) tYesD (f2 gIx (fFrz (oLst (aCons (fC (.str [49])) (aCons (fC (.str [45])) aNil)))) (fCl gInt (aCons (f2 gEq (fVar 13) (fC (.str [97]))) aNil))) [13])))) (sSeq (sPar [8, 9] (xCons (xV (f2 gSub (f2 gSub (f2 gAdd3 (fVar 1) (fVar 2)) (fVar 3)) (fC (.int 1)))) (xCons (xV (fCl gMin (aCons (fVar 1) (aCons (fVar 2) aNil)))) xNil))) (sSeq (sPar [10, 11] (xCons (xV (fCall 2 F__law_draw [] (aCons (fVar 0) (aCons (fVar 9) aNil)))) (xCons (xV (fSl (f2 gAdd3 (fVar 5) (f2 gMul (fC (.str [97, 98])) (fC (.int 12)))) oNo (oSo (fVar 9)))) xNil))) (sSeq (sApp 7 (fSl (f2 gMul (f2 gAdd3 (f2 gAdd3 (fSl (fVar 11) oNo (oSo (fVar 10))) (fCall 2 F__law_one_of [] (aCons (fVar 0) (aCons (fFrz (oLst (aCons (fC (.str [97])) (aCons (fC (.str [98])) (aCons (fC (.str [99])) aNil))))) aNil)))) (fSl (fVar 11) (oSo (f2 gAdd3 (fVar 10) (fC (.int 1)))) oNo)) (fC (.int 24))) oNo (oSo (fVar 8)))) (sSeq (sApp 7 (fSl (f2 gMul (fM1 gJoin (fC (.str [])) (fFrz (oComp (iRange1 (aCons (fVar 3) aNil)) (gN 14) tYesD (fCall 2 F__law_one_of [] (aCons (fVar 0) (aCons (fFrz (oLst (aCons (fC (.str [97])) (aCons (fC (.str [98])) aNil)))) aNil))) [14]))) (fC (.int 24))) oNo (oSo (fVar 8)))) (sSeq (sFrz 7 (sFor (iSeqN 7) (nN 12) (sIf (tNotD (tTru (fCall 2 F__law_exact [] (aCons (fCall 3 F_is_two_period_word [] (aCons (fVar 1) (aCons (fVar 2) (aCons (fVar 12) aNil)))) (aCons (fCall 3 F__law_is_two [] (aCons (fVar 1) (aCons (fVar 2) (aCons (fVar 12) aNil)))) aNil))))) (sRet (fC (.bl false))) sNext))) (sRet (fC (.bl true)))))))))))))))))
/-- _law_far_pair_right(one, other), slots 0 one 1 other 2 part 3 told 4 judged 5 value -/
def rd__law_far_pair_right (F__law_divisor : FC) (F__law_exact : FC) (F__law_is_two : FC) (F_is_two_period_word : FC) (F_meeting_length : FC) (F_two_period_word : FC) : FS := (sSeq (sPar [2, 3] (xCons (xV (fCall 2 F__law_divisor [] (aCons (fVar 0) (aCons (fVar 1) aNil)))) (xCons (xV (fCall 2 F_two_period_word [] (aCons (fVar 0) (aCons (fVar 1) aNil)))) xNil))) (sSeq (sIf (tNotD (tTru (fCall 2 F__law_exact [] (aCons (fFrz (oLst (aCons (fCall 2 F_meeting_length [] (aCons (fVar 0) (aCons (fVar 1) aNil))) (aCons (f2 gIsN (fVar 3) (fC .non)) aNil)))) (aCons (fFrz (oLst (aCons (f2 gSub (f2 gAdd3 (fVar 0) (fVar 1)) (fVar 2)) (aCons (f2 gIn (fVar 2) (fTup (aCons (fVar 0) (aCons (fVar 1) aNil)))) aNil)))) aNil))))) (sRet (fC (.bl false))) sNext) (sSeq (sIf (tVal (f2 gIsN (fVar 3) (fC .non))) (sRet (f2 gIsB (fCall 3 F_is_two_period_word [] (aCons (fVar 0) (aCons (fVar 1) (aCons (fC (.str [97, 98])) aNil)))) (fC (.bl false)))) sNext) (sSeq (sIf (tNotD (tTru (fCall 3 F__law_is_two [] (aCons (fVar 0) (aCons (fVar 1) (aCons (fVar 3) aNil)))))) (sRet (fC (.bl false))) sNext) (sSeq (sAsg 4 (fFrz (oComp (iSeq (fTup (aCons (fSl (fVar 3) (oSo (fC (.int 1))) oNo) (aCons (fVar 3) (aCons (f2 gAdd3 (fVar 3) (fSl (fVar 3) oNo (oSo (fC (.int 1))))) aNil))))) (gN 5) tYesD (fCall 3 F_is_two_period_word [] (aCons (fVar 0) (aCons (fVar 1) (aCons (fVar 5) aNil)))) [5]))) (sRet (fCall 2 F__law_exact [] (aCons (fVar 4) (aCons (fFrz (oComp (iSeq (fTup (aCons (fSl (fVar 3) (oSo (fC (.int 1))) oNo) (aCons (fVar 3) (aCons (f2 gAdd3 (fVar 3) (fSl (fVar 3) oNo (oSo (fC (.int 1))))) aNil))))) (gN 5) tYesD (fCall 3 F__law_is_two [] (aCons (fVar 0) (aCons (fVar 1) (aCons (fVar 5) aNil)))) [5])) aNil)))))))))
/-- _law_words_meet(one, other), slots 0 one 1 other 2 part 3 size 4 some 5 word -/
def rd__law_words_meet (F__law_divisor : FC) (F__law_has : FC) (F__law_words_of : FC) : FS := (sSeq (sAsg 2 (fCall 2 F__law_divisor [] (aCons (fVar 0) (aCons (fVar 1) aNil)))) (sSeq (sFor (iRange2 (aCons (f2 gAdd3 (fCl gMax (aCons (fVar 0) (aCons (fVar 1) aNil))) (fC (.int 1))) (aCons (fCl gMin (aCons (f2 gAdd3 (f2 gAdd3 (fVar 0) (fVar 1)) (fC (.int 1))) (aCons (fC (.int 10)) aNil))) aNil))) (nN 3) (sSeq (sAsg 4 (fFrz (oComp (iSeq (fCall 2 F__law_words_of [] (aCons (fC (.str [97, 98])) (aCons (fVar 3) aNil)))) (gN 5) (tAndD (tTru (fCall 2 F__law_has [] (aCons (fVar 5) (aCons (fVar 0) aNil)))) (tTru (fCall 2 F__law_has [] (aCons (fVar 5) (aCons (fVar 1) aNil))))) (fVar 5) [5]))) (sIf (tAndD (tVal (f2 gGe (fVar 3) (f2 gSub (f2 gAdd3 (fVar 0) (fVar 1)) (fVar 2)))) (tNotD (tVal (fCl gAll (aCons (fFrz (oComp (iSeqN 4) (gN 5) tYesD (fCall 2 F__law_has [] (aCons (fVar 5) (aCons (fVar 2) aNil))) [5])) aNil))))) (sRet (fC (.bl false))) sNext))) (sRet (fC (.bl true)))))
/-- _law_stretches(text, below, least), slots 0 text 1 below 2 least 3 found 4 first 5 alone 6 last 7 some 8 period -/
def rd__law_stretches (F__law_has : FC) : FS := (sSeq (sAsgX 3 xDctT) (sSeq (sFor (iRange1 (aCons (fCl gLen (aCons (fVar 0) aNil)) aNil)) (nN 4) (sFor (iRange2 (aCons (f2 gSub (f2 gAdd3 (fVar 4) (fVar 2)) (fC (.int 1))) (aCons (fCl gLen (aCons (fVar 0) aNil)) aNil))) (nN 6) (sSeq (sAsg 7 (fFrz (oComp (iRange2 (aCons (fC (.int 1)) (aCons (fVar 1) aNil))) (gN 8) (tAndD (tVal (f2 gLe (fVar 8) (f2 gSub (fVar 6) (fVar 4)))) (tTru (fCall 2 F__law_has [] (aCons (fSl (fVar 0) (oSo (fVar 4)) (oSo (f2 gAdd3 (fVar 6) (fC (.int 1))))) (aCons (fVar 8) aNil))))) (fVar 8) [8]))) (sIf (tVal (f2 gNe (fVar 7) (fFrz (oLst aNil)))) (sSetT 3 (f2 gIx (fVar 7) (fC (.int 0))) (fTup (aCons (fVar 4) (aCons (fVar 6) aNil)))) sNext)))) (sSeq (sFrzT 3 (sAsgO 5 (oLst aNil))) (sSeq (sFor (iSeqN 3) (nT 2 (nsCons (nN 4) (nsCons (nN 6) nsNil))) (sIf (tAndD (tNotD (tVal (f2 gIn (fTup (aCons (f2 gSub (fVar 4) (fC (.int 1))) (aCons (fVar 6) aNil))) (fVar 3)))) (tNotD (tVal (f2 gIn (fTup (aCons (fVar 4) (aCons (f2 gAdd3 (fVar 6) (fC (.int 1))) aNil))) (fVar 3))))) (sApp 5 (fTup (aCons (fVar 4) (aCons (fVar 6) (aCons (f2 gIx (fVar 3) (fTup (aCons (fVar 4) (aCons (fVar 6) aNil)))) aNil))))) sNext)) (sRetOV (oCl oSortedC (aCons (fVar 5) aNil)))))))
/-- _law_text_right(text, below, least), slots 0 text 1 below 2 least 3 due 4 told -/
def rd__law_text_right (F__law_exact : FC) (F__law_stretches : FC) (F_stretches : FC) : FS := (sSeq (sPar [3, 4] (xCons (xV (fCall 3 F__law_stretches [] (aCons (fVar 0) (aCons (fVar 1) (aCons (fVar 2) aNil))))) (xCons (xO (oCall 3 F_stretches [] (aCons (fVar 0) (aCons (fVar 1) (aCons (fVar 2) aNil))))) xNil))) (sSeq (sIf (tNotD (tTru (fCall 2 F__law_exact [] (aCons (fVar 4) (aCons (fVar 3) aNil))))) (sRet (fC (.bl false))) sNext) (sSeq (sApp 4 (fC .non)) (sRet (fCall 2 F__law_exact [] (aCons (fCall 3 F_stretches [] (aCons (fVar 0) (aCons (fVar 1) (aCons (fVar 2) aNil)))) (aCons (fVar 3) aNil)))))))
/-- law(script), slots 0 script 1 dice 2 told 3 spin 4 one 5 other 6 ground 7 below 8 text 9 word 10 late -/
def rd_law (F__law_dices : FC) (F__law_draw : FC) (F__law_exact : FC) (F__law_far_pair_right : FC) (F__law_ground : FC) (F__law_one_of : FC) (F__law_pair_right : FC) (F__law_text : FC) (F__law_text_right : FC) (F__law_words_meet : FC) (F_meeting_length : FC) (F_stretches : FC) (F_two_period_word : FC) : FS := (sSeq (sFor (iSeq (fCall 2 F__law_dices [] (aCons (fVar 0) (aCons (fC (.int 1)) aNil)))) (nN 1) (sSeq (sFor (iRange1 (aCons (fC (.int 3)) aNil)) (nN 3) (sSeq (sPar [4, 5] (xCons (xV (f2 gAdd3 (fC (.int 1)) (fCall 2 F__law_draw [] (aCons (fVar 1) (aCons (fC (.int 12)) aNil))))) (xCons (xV (f2 gAdd3 (fC (.int 1)) (fCall 2 F__law_draw [] (aCons (fVar 1) (aCons (fC (.int 12)) aNil))))) xNil))) (sIf (tOrD (tNotD (tTru (fCall 3 F__law_pair_right [] (aCons (fVar 1) (aCons (fVar 4) (aCons (fVar 5) aNil)))))) (tNotD (tTru (fCall 3 F__law_pair_right [] (aCons (fVar 1) (aCons (fVar 5) (aCons (fVar 4) aNil))))))) (sRet (fC (.bl false))) sNext))) (sSeq (sPar [4, 5] (xCons (xV (f2 gAdd3 (fC (.int 1)) (fCall 2 F__law_draw [] (aCons (fVar 1) (aCons (fC (.int 60)) aNil))))) (xCons (xV (f2 gAdd3 (fC (.int 1)) (fCall 2 F__law_draw [] (aCons (fVar 1) (aCons (fC (.int 60)) aNil))))) xNil))) (sSeq (sIf (tNotD (tTru (fCall 3 F__law_pair_right [] (aCons (fVar 1) (aCons (fVar 4) (aCons (fVar 5) aNil)))))) (sRet (fC (.bl false))) sNext) (sSeq (sPar [4, 5] (xCons (xV (f2 gAdd3 (fC (.int 61)) (fCall 2 F__law_draw [] (aCons (fVar 1) (aCons (fC (.int 60)) aNil))))) (xCons (xV (f2 gAdd3 (fC (.int 1)) (fCall 2 F__law_draw [] (aCons (fVar 1) (aCons (fC (.int 120)) aNil))))) xNil))) (sSeq (sIf (tOrD (tNotD (tTru (fCall 2 F__law_far_pair_right [] (aCons (fVar 4) (aCons (fVar 5) aNil))))) (tNotD (tTru (fCall 2 F__law_far_pair_right [] (aCons (fVar 5) (aCons (fVar 4) aNil)))))) (sRet (fC (.bl false))) sNext) (sSeq (sIf (tNotD (tTru (fCall 2 F__law_words_meet [] (aCons (f2 gAdd3 (fC (.int 1)) (fCall 2 F__law_draw [] (aCons (fVar 1) (aCons (fC (.int 5)) aNil)))) (aCons (f2 gAdd3 (fC (.int 1)) (fCall 2 F__law_draw [] (aCons (fVar 1) (aCons (fC (.int 5)) aNil)))) aNil))))) (sRet (fC (.bl false))) sNext) (sSeq (sAsg 6 (fCall 2 F__law_ground [] (aCons (fVar 1) (aCons (fC (.int 80)) aNil)))) (sFor (iRange1 (aCons (fC (.int 3)) aNil)) (nN 3) (sSeq (sAsg 7 (f2 gAdd3 (fC (.int 2)) (fCall 2 F__law_draw [] (aCons (fVar 1) (aCons (fC (.int 4)) aNil))))) (sSeq (sAsg 8 (fCall 3 F__law_text [] (aCons (fVar 1) (aCons (fVar 6) (aCons (fC (.int 24)) aNil))))) (sSeq (sIf (tVal (f2 gEq (fCall 2 F__law_draw [] (aCons (fVar 1) (aCons (fC (.int 4)) aNil))) (fC (.int 0)))) (sSeq (sAsg 9 (fM1 gJoin (fC (.str [])) (fFrz (oComp (iRange1 (aCons (f2 gAdd3 (fC (.int 5)) (fCall 2 F__law_draw [] (aCons (fVar 1) (aCons (fC (.int 8)) aNil)))) aNil)) (gN 10) tYesD (fCall 2 F__law_one_of [] (aCons (fVar 1) (aCons (fFrz (oCl oList (aCons (f2 gIx (fVar 6) (fC (.int 0))) aNil))) aNil))) [10])))) (sPar [8, 7] (xCons (xV (f2 gAdd3 (f2 gMul (fVar 9) (fC (.int 3))) (fSl (fVar 8) oNo (oSo (fC (.int 9)))))) (xCons (xV (f2 gAdd3 (fC (.int 5)) (fCall 2 F__law_draw [] (aCons (fVar 1) (aCons (fC (.int 10)) aNil))))) xNil)))) sNext) (sIf (tNotD (tTru (fCall 3 F__law_text_right [] (aCons (fVar 8) (aCons (fVar 7) (aCons (f2 gAdd3 (fCl gMax (aCons (fC (.int 2)) (aCons (f2 gSub (f2 gMul (fC (.int 2)) (fVar 7)) (fC (.int 3))) aNil))) (fCall 2 F__law_draw [] (aCons (fVar 1) (aCons (fC (.int 3)) aNil)))) aNil)))))) (sRet (fC (.bl false))) sNext))))))))))))) (sSeq (sAsg 2 (fFrz (oLst (aCons (fCall 3 F_stretches [] (aCons (fC (.str [97, 98, 97, 98])) (aCons (f2 gPow (fC (.int 10)) (fC (.int 29))) (aCons (f2 gMul (fC (.int 2)) (f2 gPow (fC (.int 10)) (fC (.int 29)))) aNil)))) (aCons (fCall 3 F_stretches [] (aCons (fC (.str [97, 97, 98, 97, 98])) (aCons (fC (.int 3)) (aCons (fC (.int 3)) aNil)))) (aCons (fCall 3 F_stretches [] (aCons (fC (.str [])) (aCons (fC (.int 9)) (aCons (f2 gPow (fC (.int 10)) (fC (.int 29))) aNil)))) aNil)))))) (sSeq (sIf (tNotD (tTru (fCall 2 F__law_exact [] (aCons (fVar 2) (aCons (fFrz (oLst (aCons (fFrz (oLst aNil)) (aCons (fFrz (oLst (aCons (fTup (aCons (fC (.int 1)) (aCons (fC (.int 4)) (aCons (fC (.int 2)) aNil)))) aNil))) (aCons (fFrz (oLst aNil)) aNil))))) aNil))))) (sRet (fC (.bl false))) sNext) (sRet (fCall 2 F__law_exact [] (aCons (fFrz (oLst (aCons (fCall 2 F_meeting_length [] (aCons (fC (.int 120)) (aCons (fC (.int 120)) aNil))) (aCons (fCall 2 F_two_period_word [] (aCons (fC (.int 1)) (aCons (fC (.int 1)) aNil))) (aCons (fCall 2 F_two_period_word [] (aCons (fC (.int 60)) (aCons (fC (.int 120)) aNil))) aNil))))) (aCons (fFrz (oLst (aCons (fC (.int 120)) (aCons (fC .non) (aCons (fC .non) aNil))))) aNil)))))))
end K05
namespace DL
open PySem PySem.Spec PyProof.Rows L2
mutual
/-- no instance within -/
def nobj : D → Bool
  | .non => true | .bl _ => true | .int _ => true | .str _ => true | .scr _ => true | .box _ _ => true
  | .lst xs => nobjs xs | .tup xs => nobjs xs | .dct _ vs => nobjs vs | .dcu _ vs => nobjs vs
  | .obj _ _ => false
def nobjs : List D → Bool
  | [] => true
  | d :: ds => nobj d && nobjs ds
end
/-- an environment with two slots -/
@[simp] def twoE (n i : Nat) (a : D) (j : Nat) (b : D) : DEnv := ((List.replicate n none).set i (some a)).set j (some b)
/-- noted under a name, told itself; what is reckoned ahead stands in slot j -/
@[simp] def sNear (i j : Nat) (key : Str) (cv : CV) (s1 : FS) (f : FE) : FS := fun D env n => ∃ (s : List Nat) (g : Nat) (d : DL.D), env[i]? = some (some (.val (gnd s g))) ∧ cv s g (.inr key) = some d ∧ nobj d = true ∧ D.rt (.val d) n ∧
  s1 { nx := fun e m => e[i]? = some (some (.val (gnd s g))) ∧ ∃ W : List (List Nat), e[j]? = some (some (.own (W.map DL.D.str))) ∧ f (twoE e.length i (gnd s g) j (.lst (W.map DL.D.str))) m fun d' k => d' = d ∧ D.rt (.val d) k, rt := fun _ _ => False } env n
end DL
namespace K05
open PySem PySem.Spec L2 DL PyProof.Rows
def F_divisor : FC := fun ds n Q => ∃ a b : Nat, ds = [.int a, .int b] ∧ Q (.val (.int (Nat.gcd a b))) n
theorem law_divisor : ∀ ds n Q, F_divisor ds n Q → ds.length = 2 → rd_divisor { nx := fun _ m => Q (.val .non) m, rt := Q } (startE 0 ds) n := by
  rintro ds n Q ⟨a, b, rfl, h⟩ _
  unfold rd_divisor
  refine sSeq_of fun next0 hn0 => ?_
  unfold sWhile
  refine ⟨fun m env j => j = n ∧ ∃ a' b' : Nat, env = [some (.val (.int a')), some (.val (.int b'))] ∧ m = b' ∧ Nat.gcd a' b' = Nat.gcd a b, ⟨b, rfl, a, b, rfl, rfl, rfl⟩, ?_⟩
  rintro m env j ⟨rfl, a', b', rfl, em, e⟩
  subst em
  simp
  by_cases c : 0 < m
  · rw [if_pos c]
    refine ⟨c, a' % m, Nat.mod_lt _ c, m, a' % m, ⟨rfl, by omega⟩, rfl, ?_⟩
    rw [Nat.gcd_comm m, ← Nat.gcd_rec, Nat.gcd_comm]
    exact e
  · rw [if_neg c]
    refine hn0 _ _ ?_
    have : m = 0 := by omega
    subst this
    simp
    rw [Nat.gcd_zero_right] at e
    rw [e]; simpa using h
def F_meeting_length : FC := fun ds n Q => ∃ a b : Nat, ds = [.int a, .int b] ∧ 1 ≤ a ∧ 1 ≤ b ∧ Q (.val (.int ((a : Int) + b - Nat.gcd a b))) n
theorem law_meeting_length : ∀ ds n Q, F_meeting_length ds n Q → ds.length = 2 → rd_meeting_length F_check_from F_divisor { nx := fun _ m => Q (.val .non) m, rt := Q } (startE 0 ds) n := by
  rintro ds n Q ⟨a, b, rfl, ha, hb, h⟩ _
  unfold rd_meeting_length
  refine sSeq_of fun next0 hn0 => ?_
  simp
  refine ⟨_, _, rfl, by omega, by omega, hn0 _ _ ?_⟩
  refine sSeq_of fun next1 hn1 => ?_
  simp
  refine ⟨_, _, rfl, by omega, by omega, hn1 _ _ ?_⟩
  simp
  exact ⟨a, b, rfl, by simpa using h⟩
def nbs (p q k : Nat) : List Int := [(k : Int) - p, (k : Int) - q, (k : Int) + p, (k : Int) + q]
theorem nbs_mem {L p q k : Nat} {z : Int} (hk : k < L) : (z ∈ nbs p q k ∧ 0 ≤ z ∧ z < L) ↔ ∃ j : Nat, z = j ∧ Nb L p q k j := by
  constructor
  · rintro ⟨h, h1, h2⟩
    refine ⟨z.toNat, by omega, hk, by omega, ?_⟩
    simp [nbs] at h
    omega
  · rintro ⟨j, rfl, h1, h2, h3⟩
    refine ⟨?_, by omega, by omega⟩
    simp [nbs]
    omega
theorem atI_I {xs : List Nat} {z : Int} (h : 0 ≤ z) (h2 : z < xs.length) : atI (I xs) z = some (.int (xs.getD z.toNat 0 : Nat)) := by
  obtain ⟨k, rfl⟩ : ∃ k : Nat, z = k := ⟨z.toNat, by omega⟩
  refine atI_nat' ?_
  rw [List.getElem?_map, List.getElem?_eq_getElem (by omega), List.getD_eq_getElem?_getD, Int.toNat_natCast, List.getElem?_eq_getElem (by omega)]
  rfl
def ga (xs : List Nat) (z : Int) : Nat := xs.getD z.toNat 0
theorem ga_nat (xs : List Nat) (k : Nat) : ga xs (k : Int) = xs.getD k 0 := by rw [ga, Int.toNat_natCast]
theorem I_set (xs : List Nat) (k m : Nat) : (I xs).set k (.int m) = I (xs.set k m) := by simp [List.map_set]
def F_linked : FC := fun ds n Q => ∃ L p q : Nat, ds = [.int L, .int p, .int q] ∧ L ≤ 1000 ∧ ∀ xs, Linked L p q xs → Q (.own (I xs)) n
theorem law_linked : ∀ ds n Q, F_linked ds n Q → ds.length = 3 → rd_linked { nx := fun _ m => Q (.val .non) m, rt := Q } (startE 5 ds) n := by
  rintro ds n Q ⟨L, p, q, rfl, hL, h⟩ _
  have hsz := s_line
  unfold rd_linked
  refine sSeq_of fun next0 hn0 => ?_
  simp
  refine ⟨⟨by omega, by omega⟩, hn0 _ _ ?_⟩
  refine sSeq_of fun next1 hn1 => ?_
  simp
  refine ⟨by omega, ?_⟩
  rw [ups_eq]
  have e0 : (List.range L).map (fun i : Nat => D.int ((0 : Int) + (i : Int))) = I (List.range L) := by simp
  refine forD_inv (fun pre env m => m = n ∧ ∃ xs x4 x5 x6, env = [some (.val (.int L)), some (.val (.int p)), some (.val (.int q)), some (.own (I xs)), x4, x5, x6, none] ∧ Out L p q pre.length xs) ?_ ?_ ⟨rfl, List.range L, _, _, _, by rw [← e0], Out.start⟩
  · rintro pre a post env m next hx ⟨rfl, xs, x4, x5, x6, rfl, ho⟩ hnx
    simp
    refine ⟨by omega, ?_⟩
    refine forD_inv (fun pr env k => k = m ∧ ∃ cur x4 x5 x6, env = [some (.val (.int L)), some (.val (.int p)), some (.val (.int q)), some (.own (I cur)), x4, x5, x6, none] ∧ Rnd L p q pr.length xs cur) ?_ ?_ ⟨rfl, xs, _, _, _, rfl, Rnd.start ho.len ho.snd⟩
    · rintro pr k po env j next2 hx2 ⟨rfl, cur, y4, y5, y6, rfl, hr⟩ hnx2
      obtain ⟨hprl, rfl⟩ := range_pre hx2
      have hl := hr.len
      simp
      refine sSeq_of fun next3 hn3 => ?_
      simp [-goD]
      refine ⟨by omega, ?_⟩
      have en : [D.int ((pr.length : Int) - p), D.int ((pr.length : Int) - q), D.int ((pr.length : Int) + p), D.int ((pr.length : Int) + q)] = (nbs p q pr.length).map D.int := rfl
      rw [en]
      have hnb := fun z => nbs_mem (L := L) (p := p) (q := q) (k := pr.length) (z := z)
      have hzl : (nbs p q pr.length).length = 4 := rfl
      generalize nbs p q pr.length = zs at *
      refine goD_filter (c := D.int) (fun z : Int => decide (0 ≤ z) && decide (z < L)) (fun z : Int => D.int (ga cur z : Nat)) (fun z hz m' K hT hF => ?_) ?_
      · simp [stepD]
        by_cases c1 : 0 ≤ z
        · by_cases c2 : z < L
          · simp [c1, c2]
            refine ⟨_, atI_I c1 (by omega), hT (by simp [c1, c2])⟩
          · simpa [c1, c2] using hF (by simp [c2])
        · simpa [c1] using hF (by simp [c1])
      refine ⟨fun x hx => by obtain ⟨z, _, rfl⟩ := List.mem_map.mp hx; rfl, hn3 _ _ ?_⟩
      simp
      have hfl := List.length_filter_le (fun z : Int => decide (0 ≤ z) && decide (z < L)) zs
      have hfm : ∀ z, z ∈ zs.filter (fun z : Int => decide (0 ≤ z) && decide (z < L)) ↔ ∃ j : Nat, z = j ∧ Nb L p q pr.length j := fun z => by
        rw [← hnb z hprl, List.mem_filter]; simp
      generalize zs.filter (fun z : Int => decide (0 ≤ z) && decide (z < L)) = fs at *
      have ha : atI (I cur) ((pr.length : Nat) : Int) = some (.int (cur.getD pr.length 0 : Nat)) := by
        have := atI_I (xs := cur) (z := (pr.length : Int)) (by omega) (by omega)
        rwa [Int.toNat_natCast] at this
      refine ⟨_, ha, by omega, ((cur.getD pr.length 0 : Nat) : Int) :: fs.map (fun z => (ga cur z : Int)), by rw [List.map_cons, List.map_map]; rfl, by simp, fun m hm hmin => ?_⟩
      have hmn : ∃ v : Nat, m = v ∧ (v = cur.getD pr.length 0 ∨ ∃ j, Nb L p q pr.length j ∧ v = cur.getD j 0) := by
        rcases List.mem_cons.mp hm with rfl | hm
        · exact ⟨_, rfl, .inl rfl⟩
        · obtain ⟨z, hz, rfl⟩ := List.mem_map.mp hm
          obtain ⟨j, rfl, hj⟩ := (hfm z).mp hz
          exact ⟨_, rfl, .inr ⟨j, hj, ga_nat cur j⟩⟩
      obtain ⟨v, rfl, hv⟩ := hmn
      have hv1 : v ≤ cur.getD pr.length 0 := by
        have := hmin _ (List.mem_cons_self ..)
        omega
      have hv2 : ∀ j, Nb L p q pr.length j → v ≤ cur.getD j 0 := fun j hj => by
        have := hmin (ga cur (j : Int) : Nat) (List.mem_cons_of_mem _ (List.mem_map.mpr ⟨j, (hfm _).mpr ⟨j, rfl, hj⟩, rfl⟩))
        rw [ga_nat] at this
        omega
      refine ⟨pr.length, ?_, ?_⟩
      · simp [ixN]; omega
      rw [I_set]
      refine hnx2 _ _ ⟨rfl, _, _, _, _, rfl, ?_⟩
      rw [List.length_append]
      exact hr.step hprl hv1 hv2 hv
    · rintro env k ⟨rfl, cur, y4, y5, y6, rfl, hr⟩
      rw [List.length_range] at hr
      refine hnx _ _ ⟨rfl, cur, _, _, _, rfl, ?_⟩
      rw [List.length_append]
      exact ho.step hr
  · rintro env m ⟨rfl, xs, x4, x5, x6, rfl, ho⟩
    rw [List.length_range] at ho
    refine hn1 _ _ ?_
    simp
    have := h xs ⟨ho.len, ho.snd, fun i j hij => ho.fin hij⟩
    simpa using this
def F_two_period_word : FC := fun ds n Q => ∃ p q : Nat, ds = [.int p, .int q] ∧ 1 ≤ p ∧ 1 ≤ q ∧ p + q ≤ 1000 ∧ ((Nat.gcd p q = p ∨ Nat.gcd p q = q) → Q (.val .non) n) ∧ (Nat.gcd p q ≠ p → Nat.gcd p q ≠ q → ∀ w, TwoW p q w → Q (.val (.str w)) n)
theorem law_two_period_word : ∀ ds n Q, F_two_period_word ds n Q → ds.length = 2 → rd_two_period_word F_divisor F_linked F_meeting_length { nx := fun _ m => Q (.val .non) m, rt := Q } (startE 6 ds) n := by
  rintro ds n Q ⟨p, q, rfl, hp, hq, hpq, hN, hY⟩ _
  have hsz := s_line
  have hgp := Nat.gcd_le_left q hp
  have hgq := Nat.gcd_le_right p hq
  have hg1 : 1 ≤ Nat.gcd p q := Nat.gcd_pos_of_pos_left _ hp
  unfold rd_two_period_word
  refine sSeq_of fun next0 hn0 => ?_
  simp
  refine ⟨p, q, rfl, hp, hq, ?_⟩
  simp
  refine ⟨p, q, rfl, hn0 _ _ ?_⟩
  refine sSeq_of fun next1 hn1 => ?_
  have eL : (p : Int) + q - Nat.gcd p q - 1 = ((p + q - Nat.gcd p q - 1 : Nat) : Int) := by omega
  rw [eL]
  have hfar := fun xs => linked_far (xs := xs) hp hq
  have hsame := fun xs => linked_same (L := p + q - Nat.gcd p q - 1) (p := p) (q := q) (xs := xs)
  have htw := fun a0 xs => two_word (p := p) (q := q) (a0 := a0) (xs := xs)
  have hL : p + q - Nat.gcd p q - 1 ≤ 1000 := by omega
  generalize p + q - Nat.gcd p q - 1 = L at *
  generalize Nat.gcd p q = g at *
  simp
  refine ⟨L, p, q, rfl, hL, fun xs hxs => ?_⟩
  have hl := hxs.len
  simp
  refine hn1 _ _ ?_
  refine sSeq_of fun next2 hn2 => ?_
  simp
  refine ⟨⟨by omega, by omega⟩, ?_⟩
  rw [ups_eq]
  refine goD_filter (fun i : Nat => decide (xs.getD i 0 ≠ xs.getD (i + g) 0)) (fun i : Nat => D.int (0 + (i : Int))) (fun i hi m K hT hF => ?_) ?_
  · have hi := List.mem_range.mp hi
    have a1 : atI (I xs) (i : Int) = some (.int (xs.getD i 0 : Nat)) := by
      have := atI_I (xs := xs) (z := (i : Int)) (by omega) (by omega)
      rwa [Int.toNat_natCast] at this
    have a2 : atI (I xs) ((i : Int) + g) = some (.int (xs.getD (i + g) 0 : Nat)) := by
      have := atI_I (xs := xs) (z := ((i + g : Nat) : Int)) (by omega) (by omega)
      rw [Int.toNat_natCast] at this
      rwa [show ((i + g : Nat) : Int) = (i : Int) + g by omega] at this
    generalize xs.getD i 0 = x at *
    generalize xs.getD (i + g) 0 = y at *
    simp [stepD]
    refine ⟨_, a1, _, a2, ?_⟩
    simp
    by_cases c : x = y
    · simpa [c] using hF (by simp [c])
    · have c2 : ¬ ((x : Int) = y) := by omega
      simpa [c, c2] using hT (by simp [c])
  have hmem : ∀ i, i ∈ (List.range (L - g)).filter (fun i : Nat => decide (xs.getD i 0 ≠ xs.getD (i + g) 0)) ↔ i + g < L ∧ xs.getD i 0 ≠ xs.getD (i + g) 0 := fun i => by
    rw [List.mem_filter, List.mem_range]; simp; omega
  generalize (List.range (L - g)).filter (fun i : Nat => decide (xs.getD i 0 ≠ xs.getD (i + g) 0)) = fs at *
  refine hn2 _ _ ?_
  refine sSeq_of fun next3 hn3 => ?_
  cases fs with
  | nil =>
    simp
    by_cases c : g = p ∨ g = q
    · exact hN c
    · have c1 : g ≠ p := fun e => c (.inl e)
      have c2 : g ≠ q := fun e => c (.inr e)
      obtain ⟨i, h1, h2⟩ := hfar xs hxs c1 c2
      exact absurd ((hmem i).mpr ⟨h1, h2⟩) (by simp)
  | cons a0 fs =>
    obtain ⟨h1, h2⟩ := (hmem a0).mp (List.mem_cons_self ..)
    have c1 : g ≠ p := fun e => h2 (hsame xs hxs (.inl e) h1)
    have c2 : g ≠ q := fun e => h2 (hsame xs hxs (.inr e) h1)
    have a1 : atI (I xs) (a0 : Int) = some (.int (xs.getD a0 0 : Nat)) := by
      have := atI_I (xs := xs) (z := (a0 : Int)) (by omega) (by omega)
      rwa [Int.toNat_natCast] at this
    have hw := htw a0 xs hxs h1 h2
    simp
    refine ⟨plains_I fs, hn3 _ _ ?_⟩
    simp
    refine goD_map (c := fun x : Nat => D.int x) (fun x : Nat => D.str [if x = xs.getD a0 0 then 97 else 98]) (fun x hx m K hK => ?_) ?_
    · simp [stepD]
      refine ⟨_, a1, by simp, ?_⟩
      generalize xs.getD a0 0 = z at *
      by_cases c : x = z
      · simpa [c] using hK
      · have c' : ¬ ((x : Int) = z) := by omega
        simpa [c, c'] using hK
    refine ⟨[], xs.map fun x => [if x = xs.getD a0 0 then 97 else 98], rfl, .inl (by rw [List.map_map]; rfl), ?_, ?_⟩
    · have : ∀ ys : List Nat, ((ys.map fun x => [if x = xs.getD a0 0 then 97 else 98]).map List.length).sum = ys.length := fun ys => by
        induction ys with
        | nil => rfl
        | cons y ys ih => rw [List.map_cons, List.map_cons, List.sum_cons, ih]; simp; omega
      rw [this]
      simp; omega
    rw [joinL_nil]
    have e : (xs.map fun x => [if x = xs.getD a0 0 then 97 else 98]).flatten = xs.map fun x => if x = xs.getD a0 0 then 97 else 98 := by
      clear h1 h2 a1 hw hmem hxs hl
      generalize xs.getD a0 0 = z
      induction xs with
      | nil => rfl
      | cons x xs ih => rw [List.map_cons, List.flatten_cons, ih]; rfl
    rw [e]
    exact hY c1 c2 _ hw
end K05
namespace K05
open PySem PySem.Spec L2 DL PyProof.Rows
def hasB (s : List Nat) (p : Nat) : Bool := decide (s.length ≤ p) || isPer s p
def F__law_has : FC := fun ds n Q => ∃ (s : List Nat) (p : Nat), ds = [.str s, .int p] ∧ s.length ≤ 1000000 ∧ Q (.val (.bl (hasB s p))) n
theorem law__law_has : ∀ ds n Q, F__law_has ds n Q → ds.length = 2 → rd__law_has { nx := fun _ m => Q (.val .non) m, rt := Q } (startE 0 ds) n := by
  rintro ds n Q ⟨s, p, rfl, hz, h⟩ _
  unfold hasB isPer at h
  simp [rd__law_has]
  by_cases hp : p < s.length
  · have hp2 : ¬ s.length ≤ p := by omega
    simp [hp, hp2] at h ⊢
    have e : (s.length : Int) - (p : Int) = ((s.length - p : Nat) : Int) := by omega
    rw [e, cutL_take, cutL_drop]
    exact h
  · have hp2 : s.length ≤ p := by omega
    simp [hp2] at h ⊢
    exact h
def F__law_divisor : FC := fun ds n Q => ∃ a b : Nat, ds = [.int a, .int b] ∧ 1 ≤ a ∧ 1 ≤ b ∧ a ≤ 1000 ∧ b ≤ 1000 ∧ Q (.val (.int (Nat.gcd a b))) n
theorem law__law_divisor : ∀ ds n Q, F__law_divisor ds n Q → ds.length = 2 → rd__law_divisor { nx := fun _ m => Q (.val .non) m, rt := Q } (startE 1 ds) n := by
  rintro ds n Q ⟨a, b, rfl, ha, hb, ha2, hb2, h⟩ _
  simp [rd__law_divisor]
  refine ⟨by omega, ?_⟩
  have em : (min (a : Int) b).toNat = min a b := by omega
  rw [em]
  have e2 : ups 1 (min a b) = I (upto (min a b + 1)) := ups_upto' (min a b + 1)
  rw [e2]
  refine goD_filter (fun d : Nat => decide (a % d = 0) && decide (b % d = 0)) (fun d : Nat => D.int d) (fun d hd m K hT hF => ?_) ?_
  · have hd := mem_upto.mp hd
    simp [stepD]
    simp only [mod0]
    refine ⟨by omega, ?_⟩
    by_cases c1 : a % d = 0
    · rw [if_pos c1]
      refine ⟨by omega, ?_⟩
      by_cases c2 : b % d = 0
      · rw [if_pos c2]; exact hT (by simp [c1, c2])
      · rw [if_neg c2]; exact hF (by simp [c2])
    · rw [if_neg c1]; exact hF (by simp [c1])
  · refine ⟨((upto (min a b + 1)).filter fun d => decide (a % d = 0) && decide (b % d = 0)).map (fun d : Nat => (d : Int)), by simp, ?_, ?_⟩
    · intro e
      have : (1 : Int) ∈ ((upto (min a b + 1)).filter fun d => decide (a % d = 0) && decide (b % d = 0)).map (fun d : Nat => (d : Int)) := by
        refine List.mem_map.mpr ⟨1, ?_, rfl⟩
        rw [List.mem_filter, mem_upto]
        simp [Nat.mod_one]
        omega
      rw [e] at this; cases this
    · intro m hm hy
      obtain ⟨d, hd, rfl⟩ := List.mem_map.mp hm
      rw [List.mem_filter, mem_upto] at hd
      have hg1 : Nat.gcd a b ∣ a := Nat.gcd_dvd_left a b
      have hg2 : Nat.gcd a b ∣ b := Nat.gcd_dvd_right a b
      have hgp : 0 < Nat.gcd a b := Nat.gcd_pos_of_pos_left _ (by omega)
      have hg3 := Nat.le_of_dvd (by omega) hg1
      have hg4 := Nat.le_of_dvd (by omega) hg2
      simp at hd
      have hd1 : d ∣ Nat.gcd a b := Nat.dvd_gcd (Nat.dvd_of_mod_eq_zero hd.2.1) (Nat.dvd_of_mod_eq_zero hd.2.2)
      have hd2 := Nat.le_of_dvd hgp hd1
      have := hy (Nat.gcd a b : Nat) (by
        refine List.mem_map.mpr ⟨_, ?_, rfl⟩
        rw [List.mem_filter, mem_upto]
        simp [Nat.mod_eq_zero_of_dvd hg1, Nat.mod_eq_zero_of_dvd hg2]
        omega)
      have e : d = Nat.gcd a b := by omega
      rw [e]; exact h
def twoB (p q : Nat) (d : D) : Bool := match d with
  | .str s => low s && decide (s ≠ []) && (decide (s.length + Nat.gcd p q + 1 = p + q) && hasB s p && hasB s q && !hasB s (Nat.gcd p q))
  | _ => false
def F__law_is_two : FC := fun ds n Q => ∃ (p q : Nat) (d : D), ds = [.int p, .int q, d] ∧ 1 ≤ p ∧ 1 ≤ q ∧ p ≤ 1000 ∧ q ≤ 1000 ∧ hasTy d = true ∧ (∀ s, d = .str s → s.length ≤ 10000) ∧ Q (.val (.bl (twoB p q d))) n
theorem law__law_is_two : ∀ ds n Q, F__law_is_two ds n Q → ds.length = 3 → rd__law_is_two F__law_divisor F__law_has { nx := fun _ m => Q (.val .non) m, rt := Q } (startE 2 ds) n := by
  rintro ds n Q ⟨p, q, d, rfl, hp, hq, hp2, hq2, ht, hs, h⟩ _
  unfold rd__law_is_two
  refine sSeq_of fun next0 hn0 => ?_
  simp
  refine ⟨p, q, rfl, hp, hq, hp2, hq2, hn0 _ _ ?_⟩
  refine sSeq_of fun next1 hn1 => ?_
  by_cases hd : ∃ s, d = .str s
  · obtain ⟨s, rfl⟩ := hd
    have hz := hs s rfl
    simp
    by_cases hs0 : s = []
    · rw [if_pos hs0]
      have e1 : twoB p q (.str s) = false := by simp [twoB, hs0]
      rw [e1] at h; exact h
    · rw [if_neg hs0]
      refine goD_map (fun c : Nat => D.bl (decide (97 ≤ c) && decide (c ≤ 122))) (fun c hc m K hK => ?_) ?_
      · have e : (decide (97 ≤ c) && decide (c ≤ 122)) = decide (c ∈ [97, 98, 99, 100, 101, 102, 103, 104, 105, 106, 107, 108, 109, 110, 111, 112, 113, 114, 115, 116, 117, 118, 119, 120, 121, 122]) := by
          rw [← Bool.decide_and, decide_eq_decide]
          simp
          omega
        rw [e] at hK
        simp [stepD]
        simpa using hK
      · refine ⟨s.map fun c => decide (97 ≤ c) && decide (c ≤ 122), by simp, ?_⟩
        have el : (false ∈ s.map fun c => decide (97 ≤ c) && decide (c ≤ 122)) ↔ low s = false := by
          unfold low
          rw [List.all_eq_false, List.mem_map]
          constructor
          · rintro ⟨c, h1, h2⟩; exact ⟨c, h1, by rw [h2]; decide⟩
          · rintro ⟨c, h1, h2⟩; exact ⟨c, h1, by simpa using h2⟩
        by_cases hl : low s = false
        · rw [if_pos (el.mpr hl)]
          have e1 : twoB p q (.str s) = false := by simp [twoB, hl]
          rw [e1] at h; exact h
        · rw [if_neg fun z => hl (el.mp z)]
          refine hn1 _ _ ?_
          have hl : low s = true := by simpa using hl
          have e1 : twoB p q (.str s) = (decide (s.length + Nat.gcd p q + 1 = p + q) && hasB s p && hasB s q && !hasB s (Nat.gcd p q)) := by simp [twoB, hl, hs0]
          rw [e1] at h
          simp
          by_cases hl2 : s.length + Nat.gcd p q + 1 = p + q
          · rw [if_pos (by omega)]
            refine ⟨s, p, rfl, by omega, ?_⟩
            simp [hl2] at h ⊢
            cases b1 : hasB s p with
            | false => simpa [b1] using h
            | true =>
              simp [b1] at h ⊢
              refine ⟨s, q, rfl, by omega, ?_⟩
              cases b2 : hasB s q with
              | false => simpa [b2] using h
              | true =>
                simp [b2] at h ⊢
                exact ⟨s, _, rfl, by omega, by simpa using h⟩
          · rw [if_neg (by omega)]
            simpa [hl2] using h
  · have e1 : twoB p q d = false := by
      unfold twoB
      split
      · exact absurd ⟨_, rfl⟩ hd
      · rfl
    rw [e1] at h
    cases d <;> first | exact absurd ⟨_, rfl⟩ hd | (simp at ht; done) | (simp; exact h)
def F_is_word : FC := fun ds n Q => ∃ d, ds = [d] ∧ hasTy d = true ∧ Q (.val (.bl (isWd d))) n
theorem law_is_word : ∀ ds n Q, F_is_word ds n Q → ds.length = 1 → rd_is_word F_is_text { nx := fun _ m => Q (.val .non) m, rt := Q } (startE 0 ds) n := by
  rintro ds n Q ⟨d, rfl, h1, h⟩ _
  simp [rd_is_word]
  refine ⟨d, rfl, h1, ?_⟩
  cases d with
  | str s =>
    by_cases hl : low s = true
    · simp [hl]
      cases s with
      | nil => simpa [hl] using h
      | cons => simpa [hl] using h
    · simp [hl] at h ⊢
      exact h
  | _ => simp [isTx] ; simpa [isWd] using h
def F_is_two_period_word : FC := fun ds n Q => ∃ (p q : Nat) (d : D), ds = [.int p, .int q, d] ∧ 1 ≤ p ∧ 1 ≤ q ∧ p ≤ 1000 ∧ q ≤ 1000 ∧ hasTy d = true ∧ (∀ s, d = .str s → s.length ≤ 10000) ∧ Q (.val (.bl (twoB p q d))) n
theorem law_is_two_period_word : ∀ ds n Q, F_is_two_period_word ds n Q → ds.length = 3 → rd_is_two_period_word F_divisor F_has F_is_word F_meeting_length { nx := fun _ m => Q (.val .non) m, rt := Q } (startE 3 ds) n := by
  rintro ds n Q ⟨p, q, d, rfl, hp, hq, hp2, hq2, ht, hs, h⟩ _
  unfold rd_is_two_period_word
  refine sSeq_of fun next0 hn0 => ?_
  simp
  refine ⟨p, q, rfl, hp, hq, p, q, rfl, hn0 _ _ ?_⟩
  refine sSeq_of fun next1 hn1 => ?_
  have hg : Nat.gcd p q ≤ p := Nat.le_of_dvd hp (Nat.gcd_dvd_left p q)
  by_cases hd : isWd d = true
  · obtain ⟨s, rfl⟩ : ∃ s, d = .str s := by
      cases d <;> first | exact ⟨_, rfl⟩ | (simp [isWd] at hd; done)
    have hz := hs s rfl
    have hw : low s = true ∧ s ≠ [] := by simpa [isWd] using hd
    have e1 : twoB p q (.str s) = (decide (s.length + Nat.gcd p q + 1 = p + q) && hasB s p && hasB s q && !hasB s (Nat.gcd p q)) := by simp [twoB, hw.1, hw.2]
    rw [e1] at h
    simp
    refine ⟨_, rfl, ht, ?_⟩
    simp [hw.1, hw.2]
    by_cases hl2 : s.length + Nat.gcd p q + 1 = p + q
    · rw [if_pos (by omega)]
      by_cases c : s.length ≤ Nat.gcd p q
      · rw [if_pos (by omega)]
        have : hasB s (Nat.gcd p q) = true := by simp [hasB, c]
        simpa [this] using h
      · rw [if_neg (by omega)]
        refine ⟨s, _, rfl, by omega, ?_⟩
        have eg : hasB s (Nat.gcd p q) = isPer s (Nat.gcd p q) := by simp [hasB, c]
        rw [eg] at h
        simp
        cases b : isPer s (Nat.gcd p q) with
        | true => simpa [b] using h
        | false =>
          simp [b, hl2] at h ⊢
          refine hn1 _ _ ?_
          simp
          refine ⟨by rw [PySem.sizeLine_eq]; omega, ?_⟩
          have hT : ∀ x, s.length ≤ x → hasB s x = true := fun x hx => by simp [hasB, hx]
          have hF : ∀ x, ¬ s.length ≤ x → hasB s x = isPer s x := fun x hx => by simp [hasB, hx]
          by_cases cp : s.length ≤ p
          · rw [if_pos (by omega)]
            rw [hT p cp] at h
            by_cases cq : s.length ≤ q
            · rw [if_pos (by omega)]
              rw [hT q cq] at h
              exact ⟨[true, true], rfl, h⟩
            · rw [if_neg (by omega)]
              rw [hF q cq] at h
              exact ⟨s, q, rfl, by omega, [true, isPer s q], rfl, by simpa using h⟩
          · rw [if_neg (by omega)]
            rw [hF p cp] at h
            refine ⟨s, p, rfl, by omega, ?_⟩
            show (if (p : Int) + q - (Nat.gcd p q : Nat) - 1 ≤ q then _ else _)
            by_cases cq : s.length ≤ q
            · rw [if_pos (by omega)]
              rw [hT q cq] at h
              exact ⟨[isPer s p, true], rfl, by simpa using h⟩
            · rw [if_neg (by omega)]
              rw [hF q cq] at h
              exact ⟨s, q, rfl, by omega, [isPer s p, isPer s q], rfl, by simpa using h⟩
    · rw [if_neg (by omega)]
      simpa [hl2] using h
  · have e1 : twoB p q d = false := by
      cases d with
      | str s =>
        have hd : ¬ (low s = true ∧ s ≠ []) := by simpa [isWd] using hd
        cases h1 : low s with
        | false => simp [twoB, h1]
        | true =>
          have : s = [] := Classical.byContradiction fun z => hd ⟨h1, z⟩
          simp [twoB, this]
      | _ => rfl
    rw [e1] at h
    simp
    refine ⟨_, rfl, ht, ?_⟩
    simp [hd]
    exact h
end K05
namespace K05
open PySem PySem.Spec L2 DL PyProof.Rows
theorem hasB_iff {s : List Nat} {p : Nat} : hasB s p = true ↔ PerF (fun i => s.getD i 0) s.length p := by
  unfold hasB isPer PerF
  rw [Bool.or_eq_true, Bool.and_eq_true, decide_eq_true_eq, decide_eq_true_eq, beq_iff_eq]
  constructor
  · rintro (h | ⟨h1, h2⟩) i hi
    · omega
    · have e := congrArg (fun l : List Nat => l.getD i 0) h2
      simp only [List.getD_eq_getElem?_getD, List.getElem?_drop, List.getElem?_take] at e
      rw [if_pos (by omega)] at e
      simp only [List.getD_eq_getElem?_getD]
      rw [← e, Nat.add_comm]
  · intro h
    by_cases c : s.length ≤ p
    · exact .inl c
    · refine .inr ⟨by omega, List.ext_getElem (by simp) fun i h1 h2 => ?_⟩
      simp at h1 h2
      have := h i (by omega)
      simp only [List.getD_eq_getElem?_getD] at this
      rw [List.getElem?_eq_getElem (by omega), List.getElem?_eq_getElem (by omega)] at this
      simp at this
      simp only [List.getElem_drop, List.getElem_take]
      rw [this]
      simp only [Nat.add_comm]
/-- words with two periods meet -/
theorem meet {s : List Nat} {p q : Nat} (hp : 1 ≤ p) (hq : 1 ≤ q) (h1 : hasB s p = true) (h2 : hasB s q = true) (h : p + q ≤ s.length + Nat.gcd p q) : hasB s (Nat.gcd p q) = true :=
  hasB_iff.mpr (fine_wilf (p + q) s.length p q (Nat.le_refl _) hp hq (hasB_iff.mp h1) (hasB_iff.mp h2) h)
/-- the program's word is one -/
theorem twoB_of {p q : Nat} {w : List Nat} (hg1 : Nat.gcd p q ≠ p) (hg2 : Nat.gcd p q ≠ q) (hp : 1 ≤ p) (hq : 1 ≤ q) (h : TwoW p q w) : twoB p q (.str w) = true := by
  have hl : low w = true := by
    unfold low
    rw [List.all_eq_true]
    intro c hc
    rcases h.ab c hc with rfl | rfl <;> decide
  have hlen := h.len
  have n : hasB w (Nat.gcd p q) = false := by
    cases e : hasB w (Nat.gcd p q) with
    | false => rfl
    | true => exact absurd (hasB_iff.mp e) h.not
  have hne : w ≠ [] := by
    rintro rfl
    exact h.not fun i hi => by simp at hi
  have hpos : 0 < w.length := List.length_pos_iff.mpr hne
  simp [twoB, hl, hne, n, hasB_iff.mpr h.one, hasB_iff.mpr h.two]
  omega
end K05
namespace K05
open PySem PySem.Spec L2 DL PyProof.Rows
def F__law_words_meet : FC := fun ds n Q => ∃ p q : Nat, ds = [.int p, .int q] ∧ 1 ≤ p ∧ 1 ≤ q ∧ p ≤ 5 ∧ q ≤ 5 ∧ Q (.val (.bl true)) n
theorem law__law_words_meet : ∀ ds n Q, F__law_words_meet ds n Q → ds.length = 2 → rd__law_words_meet F__law_divisor F__law_has F__law_words_of { nx := fun _ m => Q (.val .non) m, rt := Q } (startE 4 ds) n := by
  rintro ds n Q ⟨p, q, rfl, hp, hq, hp2, hq2, h⟩ _
  unfold rd__law_words_meet
  refine sSeq_of fun next0 hn0 => ?_
  simp
  refine ⟨p, q, rfl, hp, hq, by omega, by omega, hn0 _ _ ?_⟩
  refine sSeq_of fun next1 hn1 => ?_
  simp
  refine ⟨by omega, ?_⟩
  rw [ups_eq]
  refine forD_inv (fun pre env m => (∃ x3 x4 x5, env = [some (.val (.int p)), some (.val (.int q)), some (.val (.int (Nat.gcd p q))), x3, x4, x5]) ∧ m = n) ?_ ?_ ⟨⟨_, _, _, rfl⟩, rfl⟩
  · rintro pre i post env m next hx ⟨⟨x3, x4, x5, rfl⟩, rfl⟩ hnext
    have hi : i ∈ List.range (min ((p : Int) + q + 1) 10 - (max (p : Int) q + 1)).toNat := by rw [hx]; simp
    rw [List.mem_range] at hi
    obtain ⟨k, hk⟩ : ∃ k : Nat, k = max p q + 1 + i := ⟨_, rfl⟩
    have ek : (max (p : Int) q + 1 + (i : Int)) = (k : Int) := by omega
    have hk2 : k ≤ 9 := by omega
    refine sSeq_of fun next2 hn2 => ?_
    simp [ek]
    have hpw : [97, 98].length ^ k ≤ 1000000 := Nat.le_trans (Nat.pow_le_pow_right (by decide) hk2) (by decide)
    refine ⟨[97, 98], k, rfl, by decide, hpw, by omega, ?_⟩
    simp
    have hgp : 1 ≤ Nat.gcd p q := Nat.gcd_pos_of_pos_left _ (by omega)
    refine goD_filter (fun w => hasB w p && hasB w q) (fun w => D.str w) (fun w hw m K hT hF => ?_) ?_
    · have hwl := (wordsOf_mem hw).1
      simp [stepD]
      refine ⟨w, p, rfl, by omega, ?_⟩
      simp
      cases b1 : hasB w p with
      | false => simpa using hF (by simp [b1])
      | true =>
        simp
        refine ⟨w, q, rfl, by omega, ?_⟩
        simp
        cases b2 : hasB w q with
        | false => simpa using hF (by simp [b1, b2])
        | true => simpa using hT (by simp [b1, b2])
    · refine hn2 _ _ ?_
      simp
      by_cases c : (p : Int) + q - (Nat.gcd p q : Nat) ≤ k
      · rw [if_pos c]
        refine goD_map (fun w => D.bl true) (fun w hw m K hK => ?_) ?_
        · rw [List.mem_filter, Bool.and_eq_true] at hw
          have hwl := (wordsOf_mem hw.1).1
          have hm := meet hp hq hw.2.1 hw.2.2 (by omega)
          simp [stepD]
          refine ⟨w, Nat.gcd p q, rfl, by omega, ?_⟩
          simp [hm]
          exact hK
        · refine ⟨((wordsOf [97, 98] k).filter fun w => hasB w p && hasB w q).map fun _ => true, by simp, ?_⟩
          simp
          exact hnext _ _ ⟨⟨_, _, _, rfl⟩, rfl⟩
      · rw [if_neg c]
        exact hnext _ _ ⟨⟨_, _, _, rfl⟩, rfl⟩
  · rintro env m ⟨⟨x3, x4, x5, rfl⟩, rfl⟩
    exact hn1 _ _ (by simpa using h)
end K05
namespace St
/-- signs p apart are alike from i on -/
def Al (s : List Nat) (p i : Nat) : Prop := i + p < s.length ∧ s.getD i 0 = s.getD (i + p) 0
instance (s : List Nat) (p i : Nat) : Decidable (Al s p i) := by unfold Al; infer_instance
/-- from f to l the text has the period p, and more signs -/
def Pr (s : List Nat) (p f l : Nat) : Prop := 1 ≤ p ∧ f + p ≤ l ∧ ∀ i, f ≤ i → i + p ≤ l → Al s p i
def Mr (s : List Nat) (p f l : Nat) : Prop := Pr s p f l ∧ (f = 0 ∨ ¬ Al s p (f - 1)) ∧ ¬ Al s p (l + 1 - p)
variable {s : List Nat} {p f l B L : Nat}
theorem Pr.len (h : Pr s p f l) : l < s.length := by
  have := h.2.2 (l - p) (by have := h.2.1; omega) (by have := h.2.1; omega)
  have h2 := this.1
  have := h.2.1
  omega
theorem Pr.sub {f' l' : Nat} (h : Pr s p f l) (h1 : f ≤ f') (h2 : l' ≤ l) (h3 : f' + p ≤ l') : Pr s p f' l' :=
  ⟨h.1, h3, fun i a b => h.2.2 i (by omega) (by omega)⟩
/-- to the left as far as it goes -/
theorem Pr.left : ∀ {f : Nat}, Pr s p f l → ∃ f', f' ≤ f ∧ Pr s p f' l ∧ (f' = 0 ∨ ¬ Al s p (f' - 1))
  | 0, h => ⟨0, Nat.le_refl _, h, .inl rfl⟩
  | f + 1, h => by
    by_cases c : Al s p f
    · obtain ⟨f', h1, h2, h3⟩ := Pr.left (f := f) ⟨h.1, by have := h.2.1; omega, fun i a b => by
        by_cases e : i = f
        · subst e; exact c
        · exact h.2.2 i (by omega) b⟩
      exact ⟨f', by omega, h2, h3⟩
    · exact ⟨f + 1, Nat.le_refl _, h, .inr c⟩
theorem Pr.right : ∀ (k : Nat) {l : Nat}, s.length - l ≤ k → Pr s p f l → ∃ l', l ≤ l' ∧ Pr s p f l' ∧ ¬ Al s p (l' + 1 - p)
  | 0, l, hk, h => by have := h.len; omega
  | k + 1, l, hk, h => by
    by_cases c : Al s p (l + 1 - p)
    · obtain ⟨l', h1, h2, h3⟩ := Pr.right k (l := l + 1) (by have := h.len; omega) ⟨h.1, by have := h.2.1; omega, fun i a b => by
        by_cases e : i = l + 1 - p
        · subst e; exact c
        · exact h.2.2 i a (by omega)⟩
      exact ⟨l', by omega, h2, h3⟩
    · exact ⟨l, Nat.le_refl _, h, c⟩
theorem Pr.max (h : Pr s p f l) : ∃ f' l', f' ≤ f ∧ l ≤ l' ∧ Mr s p f' l' := by
  obtain ⟨l', h1, h2, h3⟩ := Pr.right (s.length - l) (Nat.le_refl _) h
  obtain ⟨f', h4, h5, h6⟩ := h2.left
  exact ⟨f', l', h4, h1, h5, h6, h3⟩
/-- some period below B, at least L signs -/
def Ev (s : List Nat) (B L : Nat) (k : Nat × Nat) : Prop := k.1 + L ≤ k.2 + 1 ∧ ∃ p, p < B ∧ Pr s p k.1 k.2
def In (k k' : Nat × Nat) : Prop := k'.1 ≤ k.1 ∧ k.2 ≤ k'.2
instance (k k' : Nat × Nat) : Decidable (In k k') := by unfold In; infer_instance
def Mx (s : List Nat) (B L : Nat) (k : Nat × Nat) : Prop := Ev s B L k ∧ ∀ k', Ev s B L k' → In k k' → k' = k
/-- a table: the keys kk, each with the least of its numbers -/
def Tab (R : Nat × Nat → Nat → Prop) (kk : List (Nat × Nat)) (v : Nat × Nat → Nat) : Prop := kk.Nodup ∧ (∀ k, k ∈ kk ↔ ∃ p, R k p) ∧ ∀ k ∈ kk, R k (v k) ∧ ∀ p, R k p → v k ≤ p
def R1 (s : List Nat) (B L : Nat) (k : Nat × Nat) (p : Nat) : Prop := p < B ∧ k.1 + L ≤ k.2 + 1 ∧ Mr s p k.1 k.2
def R2 (s : List Nat) (B L : Nat) (k : Nat × Nat) (p : Nat) : Prop := p < B ∧ k.1 + L ≤ k.2 + 1 ∧ Pr s p k.1 k.2
variable {kk : List (Nat × Nat)} {v : Nat × Nat → Nat} {k : Nat × Nat}
theorem ev_max (h : Ev s B L k) : ∃ k', In k k' ∧ ∃ p, R1 s B L k' p := by
  obtain ⟨h1, p, h2, h3⟩ := h
  obtain ⟨f', l', h4, h5, h6⟩ := h3.max
  exact ⟨(f', l'), ⟨h4, h5⟩, p, h2, by simp; omega, h6⟩
theorem r1_ev {p : Nat} (h : R1 s B L k p) : Ev s B L k := ⟨h.2.1, p, h.1, h.2.2.1⟩
theorem in_anti {k k' : Nat × Nat} (h : In k k') (h2 : In k' k) : k' = k := by
  obtain ⟨a, b⟩ := k
  obtain ⟨c, d⟩ := k'
  simp only [In] at h h2
  rw [Prod.mk.injEq]; omega
theorem mx1 (h : Tab (R1 s B L) kk v) : (k ∈ kk ∧ ∀ k' ∈ kk, k' ≠ k → ¬ In k k') ↔ Mx s B L k := by
  constructor
  · rintro ⟨h1, h2⟩
    obtain ⟨p, hp⟩ := (h.2.1 k).mp h1
    refine ⟨r1_ev hp, fun k' e i => ?_⟩
    obtain ⟨k2, i2, q, hq⟩ := ev_max e
    have i3 : In k k2 := ⟨by have := i.1; have := i2.1; omega, by have := i.2; have := i2.2; omega⟩
    by_cases c : k2 = k
    · rw [c] at i2; exact in_anti i i2
    · exact absurd i3 (h2 k2 ((h.2.1 k2).mpr ⟨q, hq⟩) c)
  · rintro ⟨h1, h2⟩
    obtain ⟨k2, i2, q, hq⟩ := ev_max h1
    have e := h2 k2 (r1_ev hq) i2
    rw [e] at hq
    refine ⟨(h.2.1 k).mpr ⟨q, hq⟩, fun k' hk hne i => hne (h2 k' ?_ i)⟩
    obtain ⟨p, hp⟩ := (h.2.1 k').mp hk
    exact r1_ev hp
theorem mx2 (h : Tab (R2 s B L) kk v) (hB : 2 ≤ B) (hL : 2 * B ≤ L + 3) : (k ∈ kk ∧ (k.1 = 0 ∨ (k.1 - 1, k.2) ∉ kk) ∧ (k.1, k.2 + 1) ∉ kk) ↔ Mx s B L k := by
  have he : ∀ k, k ∈ kk ↔ Ev s B L k := fun k => by
    rw [h.2.1]
    exact ⟨fun ⟨p, h1, h2, h3⟩ => ⟨h2, p, h1, h3⟩, fun ⟨h2, p, h1, h3⟩ => ⟨p, h1, h2, h3⟩⟩
  simp only [he]
  constructor
  · rintro ⟨h1, h2, h3⟩
    refine ⟨h1, fun k' e i => ?_⟩
    obtain ⟨g1, p, g2, g3⟩ := e
    have hl := h1.1
    by_cases c1 : k'.1 < k.1
    · refine absurd ?_ (h2.resolve_left (by omega))
      exact ⟨by simp; omega, p, g2, g3.sub (by simp; omega) i.2 (by simp; omega)⟩
    · by_cases c2 : k.2 < k'.2
      · refine absurd ?_ h3
        exact ⟨by simp; omega, p, g2, g3.sub i.1 (by simp; omega) (by simp; omega)⟩
      · obtain ⟨a, b⟩ := k
        obtain ⟨c, d⟩ := k'
        simp only [In] at i
        simp at c1 c2
        rw [Prod.mk.injEq]; omega
  · rintro ⟨h1, h2⟩
    refine ⟨h1, ?_, fun e => ?_⟩
    · by_cases c : k.1 = 0
      · exact .inl c
      · refine .inr fun e => ?_
        have := h2 _ e ⟨by simp, Nat.le_refl _⟩
        have := congrArg Prod.fst this
        simp at this; omega
    · have := h2 _ e ⟨Nat.le_refl _, by simp⟩
      have := congrArg Prod.snd this
      simp at this
theorem Tab.put {R : Nat × Nat → Nat → Prop} {p : Nat} (h : Tab R kk v) (hp : ∀ p', R k p' → p ≤ p') : Tab (fun k' p' => R k' p' ∨ (k' = k ∧ p' = p)) (if k ∈ kk then kk else kk ++ [k]) (fun x => if x = k then p else v x) := by
  have hm : ∀ x, x ∈ (if k ∈ kk then kk else kk ++ [k]) ↔ x ∈ kk ∨ x = k := fun x => by
    split
    · exact ⟨.inl, fun e => e.elim id fun e => by subst e; assumption⟩
    · simp
  refine ⟨?_, fun x => ?_, fun x hx => ?_⟩
  · split
    · exact h.1
    · rename_i c
      exact List.nodup_append.mpr ⟨h.1, by simp, fun a ha b hb e => c (by simp at hb; subst hb e; exact ha)⟩
  · rw [hm, h.2.1]
    constructor
    · rintro (⟨q, hq⟩ | e)
      · exact ⟨q, .inl hq⟩
      · exact ⟨p, .inr ⟨e, rfl⟩⟩
    · rintro ⟨q, hq | ⟨e, _⟩⟩
      · exact .inl ⟨q, hq⟩
      · exact .inr e
  · simp only
    by_cases c : x = k
    · subst c
      rw [if_pos rfl]
      refine ⟨.inr ⟨rfl, rfl⟩, fun q hq => ?_⟩
      rcases hq with hq | ⟨_, rfl⟩
      · exact hp q hq
      · exact Nat.le_refl _
    · rw [if_neg c]
      have hx2 := ((hm x).mp hx).resolve_right c
      obtain ⟨a, b⟩ := h.2.2 x hx2
      exact ⟨.inl a, fun q hq => b q (hq.resolve_right fun e => c e.1)⟩
theorem Tab.iff {R R' : Nat × Nat → Nat → Prop} (h : Tab R kk v) (e : ∀ k p, R k p ↔ R' k p) : Tab R' kk v :=
  ⟨h.1, fun k => by rw [h.2.1]; exact exists_congr (e k), fun k hk => ⟨(e _ _).mp (h.2.2 k hk).1, fun p hp => (h.2.2 k hk).2 p ((e _ _).mpr hp)⟩⟩
theorem Tab.nil {R : Nat × Nat → Nat → Prop} (e : ∀ k p, ¬ R k p) : Tab R [] v := ⟨List.nodup_nil, fun k => ⟨(fun h => nomatch h), (fun ⟨p, h⟩ => absurd h (e k p))⟩, (fun k h => nomatch h)⟩
theorem put_le {k : Nat × Nat} : (if k ∈ kk then kk else kk ++ [k]).length ≤ kk.length + 1 := by
  split <;> simp
/-- the walk along the signs: rows closed ahead of k, the row that is open -/
def RI (s : List Nat) (p k : Nat) (rs : List (Nat × Nat)) (o : Option Nat) : Prop :=
  (∀ f l, (f, l) ∈ rs ↔ Mr s p f l ∧ l + 1 - p < k) ∧ rs.length ≤ k ∧ match o with
    | none => k = 0 ∨ ¬ Al s p (k - 1)
    | some a => a < k ∧ (∀ i, a ≤ i → i < k → Al s p i) ∧ (a = 0 ∨ ¬ Al s p (a - 1))
theorem RI.start : RI s p 0 [] none := ⟨fun f l => ⟨fun h => (nomatch h), fun h => absurd h.2 (Nat.not_lt_zero _)⟩, Nat.le_refl _, .inl rfl⟩
variable {rs : List (Nat × Nat)} {n : Nat}
theorem ri_none (hp : 1 ≤ p) (h : RI s p n rs none) {f l : Nat} (hm : Mr s p f l) : l + 1 - p ≠ n := by
  intro e
  obtain ⟨⟨_, h1, h2⟩, _, _⟩ := hm
  have := h2 (l - p) (by omega) (by omega)
  rcases h.2.2 with e2 | e2
  · omega
  · rw [show l - p = n - 1 by omega] at this; exact e2 this
theorem ri_al (hp : 1 ≤ p) {o : Option Nat} (h : RI s p n rs o) (c : Al s p n) : RI s p (n + 1) rs (some (o.getD n)) := by
  refine ⟨fun f l => ?_, by have := h.2.1; omega, ?_⟩
  · rw [h.1]
    constructor
    · exact fun ⟨a, b⟩ => ⟨a, by omega⟩
    · rintro ⟨a, b⟩
      refine ⟨a, ?_⟩
      have : l + 1 - p ≠ n := fun e => a.2.2 (e ▸ c)
      omega
  · have h3 := h.2.2
    cases o with
    | none =>
      refine ⟨by simp, fun i a b => ?_, h3⟩
      have : i = n := by simp at a; omega
      subst this; exact c
    | some a =>
      obtain ⟨q1, q2, q3⟩ := h3
      refine ⟨by simp; omega, fun i e b => ?_, q3⟩
      by_cases g : i = n
      · subst g; exact c
      · exact q2 i e (by omega)
theorem ri_no (hp : 1 ≤ p) (h : RI s p n rs none) (c : ¬ Al s p n) : RI s p (n + 1) rs none := by
  refine ⟨fun f l => ?_, by have := h.2.1; omega, .inr c⟩
  rw [h.1]
  constructor
  · exact fun ⟨a, b⟩ => ⟨a, by omega⟩
  · exact fun ⟨a, b⟩ => ⟨a, by have := ri_none hp h a; omega⟩
theorem ri_end (hp : 1 ≤ p) {a : Nat} (h : RI s p n rs (some a)) (c : ¬ Al s p n) : RI s p (n + 1) (rs ++ [(a, n + p - 1)]) none := by
  obtain ⟨h1, h2, h3, h4, h5⟩ := h
  refine ⟨fun f l => ?_, by simp; omega, .inr c⟩
  rw [List.mem_append, h1, List.mem_singleton, Prod.mk.injEq]
  constructor
  · rintro (⟨a, b⟩ | ⟨rfl, rfl⟩)
    · exact ⟨a, by omega⟩
    · refine ⟨⟨⟨hp, by omega, fun i e1 e2 => h4 i e1 (by omega)⟩, h5, ?_⟩, by omega⟩
      rw [show n + p - 1 + 1 - p = n by omega]; exact c
  · rintro ⟨⟨⟨g1, g2, g3⟩, g4, g5⟩, g⟩
    by_cases e : l + 1 - p = n
    · refine .inr ⟨?_, by omega⟩
      by_cases c1 : f < a
      · refine absurd (g3 (a - 1) (by omega) (by omega)) ?_
        exact h5.resolve_left (by omega)
      · by_cases c2 : a < f
        · exact absurd (h4 (f - 1) (by omega) (by omega)) (g4.resolve_left (by omega))
        · omega
    · exact .inl ⟨⟨⟨g1, g2, g3⟩, g4, g5⟩, by omega⟩
theorem ri_all {o : Option Nat} (hp : 1 ≤ p) (hl : p < s.length) (h : RI s p (s.length - p + 1) rs o) : ∀ f l, (f, l) ∈ rs ↔ Mr s p f l := by
  intro f l
  rw [h.1]
  refine ⟨fun a => a.1, fun a => ⟨a, ?_⟩⟩
  have := a.1.len
  omega
end St
namespace K05
open PySem PySem.Spec L2 DL PyProof.Rows St
abbrev PN (rs : List (Nat × Nat)) : List D := rs.map fun r => D.tup [.int (r.1 : Nat), .int (r.2 : Nat)]
abbrev VN (v : Nat × Nat → Nat) (rs : List (Nat × Nat)) : List D := rs.map fun r => D.int (v r : Nat)
def oD : Option Nat → D
  | none => .non | some a => .int a
def F_rows_of : FC := fun ds n Q => ∃ (s : List Nat) (p : Nat), ds = [.str s, .int p] ∧ 1 ≤ p ∧ p < s.length ∧ s.length ≤ 1000 ∧ ∀ rs, (∀ f l, (f, l) ∈ rs ↔ Mr s p f l) → rs.length ≤ s.length → Q (.own (PN rs)) n
theorem law_rows_of : ∀ ds n Q, F_rows_of ds n Q → ds.length = 2 → rd_rows_of { nx := fun _ m => Q (.val .non) m, rt := Q } (startE 4 ds) n := by
  rintro ds n Q ⟨s, p, rfl, hp, hl, hz, h⟩ _
  have hsz := s_line
  unfold rd_rows_of
  refine sSeq_of fun next0 hn0 => ?_
  simp
  refine hn0 _ _ ?_
  refine sSeq_of fun next1 hn1 => ?_
  simp
  refine ⟨by omega, ?_⟩
  rw [ups_eq]
  have ek : ((s.length : Int) - p + 1).toNat = s.length - p + 1 := by omega
  rw [ek]
  refine forD_inv (fun pre env m => m = n ∧ ∃ rs o x4 x5, env = [some (.val (.str s)), some (.val (.int p)), some (.own (PN rs)), some (.val (oD o)), x4, x5] ∧ RI s p pre.length rs o) ?_ ?_ ⟨rfl, [], none, _, _, rfl, RI.start⟩
  · rintro pre i post env m next hx ⟨rfl, rs, o, x4, x5, rfl, hr⟩ hnx
    obtain ⟨hi, rfl⟩ := range_pre hx
    have hnx : ∀ rs o x4 x5, RI s p (pre.length + 1) rs o → next [some (.val (.str s)), some (.val (.int p)), some (.own (PN rs)), some (.val (oD o)), x4, x5] m := fun rs o x4 x5 q => hnx _ _ ⟨rfl, rs, o, x4, x5, rfl, by simpa using q⟩
    simp
    refine sSeq_of fun next2 hn2 => ?_
    simp
    have key : ∀ b : Bool, (b = true ↔ Al s p pre.length) → next2 [some (.val (.str s)), some (.val (.int p)), some (.own (PN rs)), some (.val (oD o)), some (.val (.int (pre.length : Nat))), some (.val (.bl b))] m := by
      intro b hb
      refine hn2 _ _ ?_
      refine sSeq_of fun next3 hn3 => ?_
      cases o with
      | none =>
        have hr0 : RI s p pre.length rs none := hr
        cases b with
        | true =>
          simp [oD]
          refine hn3 _ _ ?_
          simp
          exact hnx rs (some pre.length) _ _ (ri_al hp hr0 (hb.mp rfl))
        | false =>
          simp [oD]
          refine hn3 _ _ ?_
          simp
          exact hnx rs none _ _ (ri_no hp hr0 fun c => by have := hb.mpr c; cases this)
      | some a =>
        cases b with
        | true =>
          simp [oD]
          refine hn3 _ _ ?_
          simp
          exact hnx rs (some a) _ _ (ri_al hp hr (hb.mp rfl))
        | false =>
          simp [oD]
          refine hn3 _ _ ?_
          simp
          refine sSeq_of fun next4 hn4 => ?_
          have hlr := hr.2.1
          simp
          refine ⟨by omega, by omega, hn4 _ _ ?_⟩
          have q := hnx (rs ++ [(a, pre.length + p - 1)]) none (some (.val (.int (pre.length : Nat)))) (some (.val (.bl false))) (ri_end hp hr fun c => by have := hb.mpr c; cases this)
          have e : ((pre.length : Int) + p - 1) = ((pre.length + p - 1 : Nat) : Int) := by omega
          simp [oD] at q ⊢
          rw [e]; exact q
    by_cases c : pre.length + p < s.length
    · rw [if_pos (by omega)]
      have e2 : ((pre.length : Int) + p) = ((pre.length + p : Nat) : Int) := by omega
      refine ⟨_, atI_D (by omega), _, by rw [e2]; exact atI_D c, key _ ?_⟩
      rw [beq_iff_eq]
      exact ⟨fun e => ⟨c, e⟩, fun e => e.2⟩
    · rw [if_neg (by omega)]
      exact key false ⟨(fun e => by cases e), (fun e => absurd e.1 c)⟩
  · rintro env m ⟨rfl, rs, o, x4, x5, rfl, hr⟩
    simp at hr
    refine hn1 _ _ ?_
    simp
    exact h rs (ri_all hp hl hr) (by have := hr.2.1; omega)
end K05
namespace DL
open PySem L2
/-- two fors, nothing drawn, a test behind the second one -/
theorem go2_filt {α β : Type} {c : α → D} {tg tg1 : FG} {it1 : FA} {tt1 : FT} {te : FE} {vs1 : List Nat} {env : DEnv} (p : α → β → Bool) (r : α → β → D) (ys : List β) : ∀ {xs : List α} {k n : Nat} {Q : List D → Nat → Prop}, k + xs.length * ys.length ≤ 16777216 →
    (∀ a ∈ xs, ∀ (j m : Nat) (K : List D → Nat → Prop), j + ys.length ≤ 16777216 → K ((ys.filter (p a)).map (r a)) m → tg (c a) env fun env1 => it1 env1 m fun zs n2 => j + zs.length ≤ 16777216 ∧ goD tg1 tt1 te (wipeE env1 vs1) zs n2 K) →
    Q (xs.flatMap fun a => (ys.filter (p a)).map (r a)) n → go2 tg tYesD it1 tg1 tt1 te vs1 env (xs.map c) k n Q
  | [], k, n, Q, _, _, h => h
  | a :: xs, k, n, Q, hz, H, h => by
    rw [List.length_cons, Nat.succ_mul] at hz
    refine H a (List.mem_cons_self ..) k n (fun zs n3 => go2 tg tYesD it1 tg1 tt1 te vs1 env (xs.map c) (k + zs.length) n3 fun ws n4 => Q (zs ++ ws) n4) (by omega) ?_
    have hf := List.length_filter_le (p a) ys
    refine go2_filt p r ys (by rw [List.length_map]; omega) (fun b hb => H b (List.mem_cons_of_mem _ hb)) ?_
    simpa [List.flatMap_cons] using h
end DL
namespace K05
open PySem PySem.Spec L2 DL PyProof.Rows St
abbrev tri (k : Nat × Nat) (p : Nat) : SrtO.I3 := ((k.1 : Int), (k.2 : Int), (p : Int))
def IsStr (s : List Nat) (B L : Nat) (qs : List SrtO.I3) : Prop := qs.Nodup ∧ qs.Pairwise (fun p q => SrtO.lexC q p = false) ∧
  ∀ t, t ∈ qs ↔ ∃ k p, t = tri k p ∧ Mx s B L k ∧ R2 s B L k p ∧ ∀ p', R2 s B L k p' → p ≤ p'
theorem lexC_anti {p q : SrtO.I3} (h : SrtO.lexC q p = false) (h2 : SrtO.lexC p q = false) : p = q := by
  have a := SrtO.lexC_no.mp h
  have b := SrtO.lexC_no.mp h2
  obtain ⟨p1, p2, p3⟩ := p
  obtain ⟨q1, q2, q3⟩ := q
  simp at a b
  rw [Prod.mk.injEq, Prod.mk.injEq]; omega
theorem IsStr.uniq {s : List Nat} {B L : Nat} {qs qs' : List SrtO.I3} (h : IsStr s B L qs) (h' : IsStr s B L qs') : qs = qs' :=
  List.Perm.eq_of_pairwise (fun a b _ _ => lexC_anti) h.2.1 h'.2.1 ((List.perm_ext_iff_of_nodup h.1 h'.1).mpr fun t => by rw [h.2.2, h'.2.2])
/-- the triples of a table's longest stretches, in order -/
theorem IsStr.of {s : List Nat} {B L : Nat} {ks : List (Nat × Nat)} {v : Nat × Nat → Nat} {qs : List SrtO.I3} (hn : ks.Nodup) (hm : ∀ k, k ∈ ks ↔ Mx s B L k) (hv : ∀ k ∈ ks, R2 s B L k (v k) ∧ ∀ p', R2 s B L k p' → v k ≤ p') (hq : qs.Perm (ks.map fun k => tri k (v k))) (hp : qs.Pairwise (fun p q => SrtO.lexC q p = false)) : IsStr s B L qs := by
  refine ⟨hq.nodup_iff.mpr ?_, hp, fun t => ?_⟩
  · rw [List.nodup_iff_pairwise_ne, List.pairwise_map]
    refine List.Pairwise.imp (fun {a b} h e => h ?_) hn
    simp [tri] at e
    rw [Prod.ext_iff]; omega
  · rw [hq.mem_iff, List.mem_map]
    constructor
    · rintro ⟨k, hk, rfl⟩
      exact ⟨k, v k, rfl, (hm k).mp hk, hv k hk⟩
    · rintro ⟨k, p, rfl, hk, h1, h2⟩
      have hk := (hm k).mpr hk
      have e := hv k hk
      have : p = v k := Nat.le_antisymm (h2 _ e.1) (e.2 _ h1)
      exact ⟨k, hk, by rw [this]⟩
theorem nn_inj {a b : Nat × Nat} (h : D.tup [.int (a.1 : Nat), .int (a.2 : Nat)] = .tup [.int (b.1 : Nat), .int (b.2 : Nat)]) : a = b := by
  simp at h
  rw [Prod.ext_iff]; omega
open Classical in
theorem putKs_PN (kk : List (Nat × Nat)) (k : Nat × Nat) : putKs (PN kk) (.tup [.int (k.1 : Nat), .int (k.2 : Nat)]) = PN (if k ∈ kk then kk else kk ++ [k]) := by
  unfold putKs
  have : (D.tup [.int (k.1 : Nat), .int (k.2 : Nat)]) ∈ PN kk ↔ k ∈ kk := by
    rw [List.mem_map]
    exact ⟨fun ⟨x, hx, e⟩ => nn_inj e ▸ hx, fun h => ⟨k, h, rfl⟩⟩
  by_cases c : k ∈ kk
  · rw [if_pos (this.mpr c), if_pos c]
  · rw [if_neg fun h => c (this.mp h), if_neg c]; simp
theorem putVs_PN {v : Nat × Nat → Nat} {k : Nat × Nat} {p : Nat} : ∀ {kk : List (Nat × Nat)}, kk.Nodup → putVs (PN kk) (VN v kk) (.tup [.int (k.1 : Nat), .int (k.2 : Nat)]) (.int p) = VN (fun x => if x = k then p else v x) (if k ∈ kk then kk else kk ++ [k])
  | [], _ => by simp [putVs]
  | a :: kk, h => by
    obtain ⟨h1, h2⟩ := List.nodup_cons.mp h
    have ih := putVs_PN (v := v) (k := k) (p := p) h2
    simp only [List.map_cons, putVs]
    by_cases c : a = k
    · subst c
      rw [if_pos rfl, if_pos (List.mem_cons_self ..)]
      simp only [List.map_cons, if_pos]
      congr 1
      refine List.map_congr_left fun x hx => ?_
      rw [if_neg fun e : x = a => h1 (e ▸ hx)]
    · rw [if_neg fun e => c (nn_inj e), ih]
      by_cases c2 : k ∈ kk
      · rw [if_pos c2, if_pos (List.mem_cons_of_mem _ c2)]; simp [c]
      · rw [if_neg c2, if_neg (by simp [c2, Ne.symm c])]; simp [c]
theorem plains_PN {k : Nat} : ∀ rs : List (Nat × Nat), plains (k + 2) (PN rs) = true
  | [] => rfl
  | r :: rs => by simp only [List.map_cons, plains, plains_PN rs]; rfl
theorem any_dec {ins : List (Nat × Nat)} {k : Nat × Nat} : (ins.any fun x => decide (x = k)) = decide (k ∈ ins) := by
  rw [Bool.eq_iff_iff, List.any_eq_true, decide_eq_true_eq]
  exact ⟨fun ⟨x, hx, e⟩ => of_decide_eq_true e ▸ hx, fun h => ⟨k, h, decide_eq_true rfl⟩⟩
theorem eqD_PN (a b : Nat × Nat) : eqD (.tup [.int (a.1 : Nat), .int (a.2 : Nat)]) (.tup [.int (b.1 : Nat), .int (b.2 : Nat)]) = decide (a = b) := by
  have : a = b ↔ a.1 = b.1 ∧ a.2 = b.2 := Prod.ext_iff
  rw [Bool.eq_iff_iff]
  simp [this]
  omega
theorem nodup_PN {kk : List (Nat × Nat)} (h : kk.Nodup) : (PN kk).Nodup := by
  rw [List.nodup_iff_pairwise_ne, List.pairwise_map]
  exact List.Pairwise.imp (fun {a b} h e => h (nn_inj e)) h
def F_stretches_in : FC := fun ds n Q => ∃ (s : List Nat) (B L : Nat), ds = [.str s, .int B, .int L] ∧ 2 ≤ B ∧ 2 ≤ L ∧ s.length ≤ 60 ∧ ∀ qs, IsStr s B L qs → Q (.own (PTr qs)) n
theorem law_stretches_in : ∀ ds n Q, F_stretches_in ds n Q → ds.length = 3 → rd_stretches_in F_rows_of { nx := fun _ m => Q (.val .non) m, rt := Q } (startE 7 ds) n := by
  rintro ds n Q ⟨s, B, L, rfl, hB, hL, hz, h⟩ _
  have hsz := s_line
  unfold rd_stretches_in
  refine sSeq_of fun next0 hn0 => ?_
  simp
  intro a0
  refine hn0 _ _ ?_
  refine sSeq_of fun next1 hn1 => ?_
  simp
  refine ⟨by omega, ?_⟩
  obtain ⟨T, hT⟩ : ∃ T : Nat, T = min B s.length - 1 := ⟨_, rfl⟩
  have e1 : (min (B : Int) s.length).toNat - 1 = T := by omega
  rw [e1]
  unfold downs
  refine forD_inv (fun pre env m => m = n ∧ ∃ kk v x4 x6 x7, env = [some (.val (.str s)), some (.val (.int B)), some (.val (.int L)), some (.tre (.dcu a0 (PN kk) (leaves (VN v kk)))), x4, none, x6, x7, none, none] ∧ Tab (fun k p => T - pre.length < p ∧ R1 s B L k p) kk v ∧ kk.length ≤ pre.length * 60) ?_ ?_ ⟨rfl, [], fun _ => 0, none, none, none, rfl, Tab.nil fun k p h => ?_, by simp⟩
  · rintro pre i post env m next hx ⟨rfl, kk, v, x4, x6, x7, rfl, ht, hkl⟩ hnx
    obtain ⟨hi, rfl⟩ := range_pre hx
    obtain ⟨q, hq⟩ : ∃ q : Nat, q = T - pre.length := ⟨_, rfl⟩
    have e2 : (min (B : Int) s.length - 1 - (pre.length : Nat)) = (q : Int) := by omega
    simp only [e2]
    simp
    refine ⟨s, q, rfl, by omega, by omega, by omega, fun rs hrs hrl => ?_⟩
    simp
    refine forD_inv (fun pr env k => k = m ∧ ∃ kk v x6 x7, env = [some (.val (.str s)), some (.val (.int B)), some (.val (.int L)), some (.tre (.dcu a0 (PN kk) (leaves (VN v kk)))), some (.val (.int q)), none, x6, x7, none, none] ∧ Tab (fun k p => (q < p ∧ R1 s B L k p) ∨ (p = q ∧ k ∈ pr ∧ k.1 + L ≤ k.2 + 1)) kk v ∧ kk.length ≤ pre.length * 60 + pr.length) ?_ ?_ ⟨rfl, kk, v, x6, x7, rfl, ht.iff fun k p => by simp [hq], by simpa using hkl⟩
    · rintro pr r po env j next2 hx2 ⟨rfl, kk, v, x6, x7, rfl, ht, hkl⟩ hnx2
      have hlr : pr.length < rs.length := by rw [hx2]; simp
      have hr : r ∈ rs := by rw [hx2]; simp
      simp
      have hkk : (PN kk).length < 16777216 := by rw [List.length_map]; omega
      have hdone : ∀ kk v, Tab (fun k p => (q < p ∧ R1 s B L k p) ∨ (p = q ∧ k ∈ pr ++ [r] ∧ k.1 + L ≤ k.2 + 1)) kk v → kk.length ≤ pre.length * 60 + (pr ++ [r]).length → next2 [some (.val (.str s)), some (.val (.int B)), some (.val (.int L)), some (.tre (.dcu a0 (PN kk) (leaves (VN v kk)))), some (.val (.int q)), none, some (.val (.int (r.1 : Nat))), some (.val (.int (r.2 : Nat))), none, none] j := fun kk v h1 h2 => hnx2 _ _ ⟨rfl, kk, v, _, _, rfl, h1, h2⟩
      have hrm := (hrs r.1 r.2).mp hr
      have hrl := hrm.1.2.1
      by_cases c : L ≤ r.2 - r.1 + 1
      · rw [if_pos (by omega)]
        refine ⟨a0, PN kk, VN v kk, ⟨rfl, rfl, rfl⟩, by omega, hkk, ?_⟩
        rw [putKs_PN, putVs_PN ht.1]
        refine hdone _ _ ((ht.put (k := r) (p := q) fun p' hp' => by rcases hp' with ⟨g, _⟩ | ⟨g, _⟩ <;> omega).iff fun k p => ?_) (by have := put_le (kk := kk) (k := r); simp; omega)
        constructor
        · rintro ((g | ⟨g1, g2, g3⟩) | ⟨rfl, g2⟩)
          · exact .inl g
          · exact .inr ⟨g1, by simp [g2], g3⟩
          · exact .inr ⟨g2, by simp, by omega⟩
        · rintro (g | ⟨g1, g2, g3⟩)
          · exact .inl (.inl g)
          · rcases List.mem_append.mp g2 with g2 | g2
            · exact .inl (.inr ⟨g1, g2, g3⟩)
            · exact .inr ⟨List.mem_singleton.mp g2, g1⟩
      · rw [if_neg (by omega)]
        refine hdone kk v (ht.iff fun k p => ?_) (by simp; omega)
        constructor
        · rintro (g | ⟨g1, g2, g3⟩)
          · exact .inl g
          · exact .inr ⟨g1, by simp [g2], g3⟩
        · rintro (g | ⟨g1, g2, g3⟩)
          · exact .inl g
          · rcases List.mem_append.mp g2 with g2 | g2
            · exact .inr ⟨g1, g2, g3⟩
            · rw [List.mem_singleton.mp g2] at g3; omega
    · rintro env k ⟨rfl, kk, v, x6, x7, rfl, ht, hkl⟩
      refine hnx _ _ ⟨rfl, kk, v, _, _, _, rfl, ht.iff fun k p => ?_, by simp; omega⟩
      simp only [List.length_append, List.length_singleton]
      constructor
      · rintro (⟨g1, g2⟩ | ⟨rfl, g2, g3⟩)
        · exact ⟨by omega, g2⟩
        · exact ⟨by omega, by omega, g3, (hrs _ _).mp g2⟩
      · rintro ⟨g1, g2⟩
        by_cases c : p = q
        · subst c
          exact .inr ⟨rfl, (hrs _ _).mpr g2.2.2, g2.2.1⟩
        · exact .inl ⟨by omega, g2⟩
  · rintro env m ⟨rfl, kk, v, x4, x6, x7, rfl, ht, hkl⟩
    have ht : Tab (R1 s B L) kk v := ht.iff fun k p => by
      simp only [List.length_range, Nat.sub_self]
      exact ⟨fun g => g.2, fun g => ⟨g.2.2.1.1, g⟩⟩
    refine hn1 _ _ ?_
    refine sSeq_of fun next2 hn2 => ?_
    simp [-goD]
    have hkl : kk.length ≤ 59 * 60 := Nat.le_trans hkl (Nat.mul_le_mul_right _ (by rw [List.length_range]; omega))
    refine go2_filt (fun k k' => decide (k' ≠ k) && decide (In k k')) (fun k _ => D.tup [.int (k.1 : Nat), .int (k.2 : Nat)]) kk ?_ (fun k hk j m' K hj hK => ?_) ?_
    · have := Nat.mul_le_mul hkl hkl; omega
    · simp [-goD]
      refine ⟨by simpa using hj, ?_⟩
      refine goD_filter (fun k' => decide (k' ≠ k) && decide (In k k')) (fun _ => D.tup [.int (k.1 : Nat), .int (k.2 : Nat)]) (fun k' hk' m2 K2 hT hF => ?_) hK
      simp [stepD]
      by_cases c1 : k' = k
      · subst c1
        rw [if_pos ⟨rfl, rfl⟩]
        exact hF (by simp)
      · rw [if_neg (by rw [Prod.ext_iff] at c1; omega)]
        by_cases c2 : In k k'
        · rw [if_pos c2.1, if_pos c2.2]
          exact hT (by simp [c1, c2])
        · have hF := hF (by simp [c2])
          by_cases c3 : k'.1 ≤ k.1
          · rw [if_pos c3, if_neg fun c4 => c2 ⟨c3, c4⟩]; exact hF
          · rw [if_neg c3]; exact hF
    · obtain ⟨ins, hins⟩ : ∃ ins, ins = kk.flatMap fun a => (kk.filter fun k' => decide (k' ≠ a) && decide (In a k')).map fun _ => a := ⟨_, rfl⟩
      have ei : (kk.flatMap fun a => (kk.filter fun k' => decide (k' ≠ a) && decide (In a k')).map fun _ => D.tup [.int (a.1 : Nat), .int (a.2 : Nat)]) = PN ins := by
        rw [hins]
        simp only [PN, List.map_flatMap, List.map_map, Function.comp_def]
      have hmi : ∀ k, k ∈ ins ↔ k ∈ kk ∧ ∃ k' ∈ kk, k' ≠ k ∧ In k k' := fun k => by
        rw [hins, List.mem_flatMap]
        constructor
        · rintro ⟨a, ha, h⟩
          obtain ⟨k', hk', rfl⟩ := List.mem_map.mp h
          rw [List.mem_filter] at hk'
          simp at hk'
          exact ⟨ha, k', hk'.1, hk'.2.1, hk'.2.2⟩
        · rintro ⟨ha, k', hk', h1, h2⟩
          exact ⟨k, ha, List.mem_map.mpr ⟨k', by rw [List.mem_filter]; simp [hk', h1, h2], rfl⟩⟩
      rw [ei]
      refine hn2 _ _ ?_
      simp [-goD]
      refine goD_filter (fun k => !(ins.any fun x => decide (x = k))) (fun k => D.tup [.int (k.1 : Nat), .int (k.2 : Nat), .int (v k : Nat)]) (fun k hk m2 K2 hT hF => ?_) ?_
      · simp [stepD]
        refine ⟨plains_PN ins, ?_⟩
        have ea : ins.any ((fun z => eqD z (D.tup [.int (k.1 : Nat), .int (k.2 : Nat)])) ∘ fun r => D.tup [.int (r.1 : Nat), .int (r.2 : Nat)]) = ins.any fun x => decide (x = k) := by
          congr 1
          funext x
          exact eqD_PN x k
        rw [ea]
        cases c : ins.any fun x => decide (x = k) with
        | true =>
          rw [if_neg (by simp)]
          exact hF (by simp [c])
        | false =>
          rw [if_pos (by simp)]
          refine ⟨_, dGet_map (nodup_PN ht.1) hk, by omega, hT (by simp [c])⟩
      · refine ⟨(kk.filter fun k => !(ins.any fun x => decide (x = k))).map fun k => tri k (v k), by simp only [PTr, List.map_map]; rfl, fun qs hq hp => h qs (IsStr.of (ht.1.sublist List.filter_sublist) (fun k => ?_) (fun k hk => ?_) hq hp)⟩
        · rw [← mx1 ht, List.mem_filter]
          have : (!(ins.any fun x => decide (x = k))) = true ↔ k ∉ ins := by rw [any_dec]; simp
          rw [this, hmi]
          constructor
          · rintro ⟨a, b⟩
            exact ⟨a, fun k' h1 h2 h3 => b ⟨a, k', h1, h2, h3⟩⟩
          · rintro ⟨a, b⟩
            exact ⟨a, fun ⟨_, k', h1, h2, h3⟩ => b k' h1 h2 h3⟩
        · have hk1 := (List.mem_filter.mp hk).1
          have e := ht.2.2 k hk1
          refine ⟨⟨e.1.1, e.1.2.1, e.1.2.2.1⟩, fun p' hp' => ?_⟩
          refine e.2 p' ⟨hp'.1, hp'.2.1, ?_⟩
          obtain ⟨f', l', i1, i2, i3⟩ := hp'.2.2.max
          have hM : Mx s B L k := (mx1 ht).mp ⟨hk1, fun k' h1 h2 h3 => by
            have : k ∈ ins := (hmi k).mpr ⟨hk1, k', h1, h2, h3⟩
            have h4 := (List.mem_filter.mp hk).2
            rw [any_dec] at h4
            simp at h4
            exact h4 this⟩
          have e3 := hM.2 (f', l') ⟨by simp; have := hp'.2.1; omega, _, hp'.1, i3.1⟩ ⟨i1, i2⟩
          have e1 := congrArg Prod.fst e3
          have e2 := congrArg Prod.snd e3
          simp at e1 e2
          rw [← e1, ← e2]; exact i3
  · simp at h; obtain ⟨h1, h2, h3, h4⟩ := h; have := h4.1.1; have := h4.1.len; have := h4.1.2.1; omega
end K05
namespace K05
open PySem PySem.Spec L2 DL PyProof.Rows St
def F_stretches : FC := fun ds n Q => ∃ (s : List Nat) (B L : Nat), ds = [.str s, .int B, .int L] ∧ low s = true ∧ 2 ≤ B ∧ 2 ≤ L ∧ 2 * B ≤ L + 3 ∧ s.length ≤ 60 ∧ ∀ qs, IsStr s B L qs → Q (.own (PTr qs)) n
theorem law_stretches : ∀ ds n Q, F_stretches ds n Q → ds.length = 3 → rd_stretches F_check_from F_check_text F_stretches_in { nx := fun _ m => Q (.val .non) m, rt := Q } (startE 0 ds) n := by
  rintro ds n Q ⟨s, B, L, rfl, hs, hB, hL, hBL, hz, h⟩ _
  unfold rd_stretches
  refine sSeq_of fun next0 hn0 => ?_
  simp
  refine ⟨s, rfl, hs, hn0 _ _ ?_⟩
  refine sSeq_of fun next1 hn1 => ?_
  simp
  refine ⟨_, _, rfl, by omega, by omega, hn1 _ _ ?_⟩
  refine sSeq_of fun next2 hn2 => ?_
  simp
  refine ⟨_, _, rfl, by omega, by omega, hn2 _ _ ?_⟩
  refine sSeq_of fun next3 hn3 => ?_
  simp
  refine ⟨MulOk.left (by omega), by omega, hn3 _ _ ?_⟩
  simp
  refine ⟨s, B, L, rfl, hB, hL, hz, fun qs hq => ?_⟩
  simpa using h qs hq
/-- as the law writes it: a stretch with its least period -/
def R3 (s : List Nat) (B L : Nat) (k : Nat × Nat) (p : Nat) : Prop := R2 s B L k p ∧ ∀ p', R2 s B L k p' → p ≤ p'
theorem hasB_slice {s : List Nat} {p f l : Nat} (h1 : f ≤ l) (h2 : l < s.length) (hp : 1 ≤ p) (h3 : f + p ≤ l) : hasB ((s.drop f).take (l + 1 - f)) p = true ↔ Pr s p f l := by
  rw [hasB_iff]
  have hl : ((s.drop f).take (l + 1 - f)).length = l + 1 - f := by simp; omega
  have hg : ∀ i, i < l + 1 - f → ((s.drop f).take (l + 1 - f)).getD i 0 = s.getD (f + i) 0 := fun i hi => by
    rw [List.getD_eq_getElem?_getD, List.getElem?_take, if_pos hi, List.getElem?_drop, List.getD_eq_getElem?_getD]
  unfold PerF
  rw [hl]
  constructor
  · intro h
    refine ⟨hp, h3, fun i a b => ⟨by omega, ?_⟩⟩
    have := h (i - f) (by omega)
    simp only at this
    rw [hg _ (by omega), hg _ (by omega)] at this
    rwa [show f + (i - f) = i by omega, show f + (i - f + p) = i + p by omega] at this
  · intro h i hi
    simp only
    rw [hg _ (by omega), hg _ (by omega)]
    have := (h.2.2 (f + i) (by omega) (by omega)).2
    rwa [show f + i + p = f + (i + p) by omega] at this
theorem upto_lt (n : Nat) : (upto n).Pairwise (· < ·) := by
  unfold upto
  rw [List.pairwise_map]
  exact List.Pairwise.imp (fun h => by omega) List.pairwise_lt_range
def lone (kk : List (Nat × Nat)) (k : Nat × Nat) : Bool := !(kk.any fun x => decide ((x.1 : Int) = k.1 - 1) && decide ((x.2 : Int) = k.2)) && !(kk.any fun x => decide ((x.1 : Int) = k.1) && decide ((x.2 : Int) = k.2 + 1))
theorem dGet_any {v : Nat × Nat → Nat} {a b : Int} : ∀ {kk : List (Nat × Nat)}, (dGet (PN kk) (VN v kk) (.tup [.int a, .int b])).isSome = kk.any fun x => decide ((x.1 : Int) = a) && decide ((x.2 : Int) = b)
  | [] => rfl
  | k :: kk => by
    simp only [List.map_cons, dGet, List.any_cons]
    by_cases c : (k.1 : Int) = a ∧ (k.2 : Int) = b
    · rw [if_pos (by simp [c.1, c.2])]; simp [c.1, c.2]
    · rw [if_neg (by simpa using c), dGet_any]
      rw [not_and] at c
      by_cases c1 : (k.1 : Int) = a
      · simp [c c1]
      · simp [c1]
theorem lone_iff {kk : List (Nat × Nat)} {k : Nat × Nat} : lone kk k = true ↔ (k.1 = 0 ∨ (k.1 - 1, k.2) ∉ kk) ∧ (k.1, k.2 + 1) ∉ kk := by
  unfold lone
  rw [Bool.and_eq_true, Bool.not_eq_true', Bool.not_eq_true', ← Bool.not_eq_true, ← Bool.not_eq_true, List.any_eq_true, List.any_eq_true]
  have e2 : (∃ x ∈ kk, (decide ((x.1 : Int) = k.1) && decide ((x.2 : Int) = k.2 + 1)) = true) ↔ (k.1, k.2 + 1) ∈ kk := by
    constructor
    · rintro ⟨x, hx, h⟩
      simp at h
      have : x = (k.1, k.2 + 1) := by rw [Prod.ext_iff]; simp; omega
      exact this ▸ hx
    · exact fun h => ⟨_, h, by simp⟩
  have e1 : (∃ x ∈ kk, (decide ((x.1 : Int) = k.1 - 1) && decide ((x.2 : Int) = k.2)) = true) ↔ ¬ k.1 = 0 ∧ (k.1 - 1, k.2) ∈ kk := by
    constructor
    · rintro ⟨x, hx, h⟩
      simp at h
      have : x = (k.1 - 1, k.2) := by rw [Prod.ext_iff]; simp; omega
      exact ⟨by omega, this ▸ hx⟩
    · exact fun h => ⟨_, h.2, by simp; omega⟩
  rw [e1, e2]
  constructor
  · exact fun ⟨a, b⟩ => ⟨Classical.byCases (fun c : k.1 = 0 => .inl c) fun c => .inr fun d => a ⟨c, d⟩, b⟩
  · exact fun ⟨a, b⟩ => ⟨fun ⟨c, d⟩ => (a.resolve_left c) d, b⟩
theorem least_of {P : Nat → Prop} {p : Nat} (h : P p) : ∃ p, P p ∧ ∀ q, P q → p ≤ q := by
  classical
  induction p using Nat.strongRecOn with
  | _ p ih =>
    by_cases c : ∃ q, q < p ∧ P q
    · obtain ⟨q, h1, h2⟩ := c; exact ih q h1 h2
    · exact ⟨p, h, fun q hq => by
        by_cases d : p ≤ q
        · exact d
        · exact absurd ⟨q, by omega, hq⟩ c⟩
def F__law_stretches : FC := fun ds n Q => ∃ (s : List Nat) (B L : Nat), ds = [.str s, .int B, .int L] ∧ 2 ≤ B ∧ 2 ≤ L ∧ 2 * B ≤ L + 3 ∧ B ≤ 100 ∧ L ≤ 1000 ∧ s.length ≤ 60 ∧ ∀ qs, IsStr s B L qs → qs.length ≤ 4000 → Q (.own (PTr qs)) n
theorem law__law_stretches : ∀ ds n Q, F__law_stretches ds n Q → ds.length = 3 → rd__law_stretches F__law_has { nx := fun _ m => Q (.val .non) m, rt := Q } (startE 6 ds) n := by
  rintro ds n Q ⟨s, B, L, rfl, hB, hL, hBL, hB2, hL2, hz, h⟩ _
  have hsz := s_line
  unfold rd__law_stretches
  refine sSeq_of fun next0 hn0 => ?_
  simp
  intro a0
  refine hn0 _ _ ?_
  refine sSeq_of fun next1 hn1 => ?_
  simp
  refine ⟨by omega, ?_⟩
  rw [ups_eq]
  refine forD_inv (fun pre env m => m = n ∧ ∃ kk v x4 x6 x7, env = [some (.val (.str s)), some (.val (.int B)), some (.val (.int L)), some (.tre (.dcu a0 (PN kk) (leaves (VN v kk)))), x4, none, x6, x7, none] ∧ Tab (fun k p => k.1 < pre.length ∧ R3 s B L k p) kk v ∧ kk.length ≤ pre.length * 60) ?_ ?_ ⟨rfl, [], fun _ => 0, none, none, none, rfl, Tab.nil fun k p h => by simp at h, by simp⟩
  · rintro pre i post env m next hx ⟨rfl, kk, v, x4, x6, x7, rfl, ht, hkl⟩ hnx
    obtain ⟨hi, rfl⟩ := range_pre hx
    simp
    have ej : ((s.length : Int) - ((pre.length : Int) + L - 1)).toNat = s.length - (pre.length + L - 1) := by omega
    refine ⟨⟨by omega, by omega, by omega⟩, ?_⟩
    rw [ej, ups_eq]
    refine forD_inv (fun pr env k => k = m ∧ ∃ kk v x6 x7, env = [some (.val (.str s)), some (.val (.int B)), some (.val (.int L)), some (.tre (.dcu a0 (PN kk) (leaves (VN v kk)))), some (.val (.int (pre.length : Nat))), none, x6, x7, none] ∧ Tab (fun k p => (k.1 < pre.length ∨ (k.1 = pre.length ∧ k.2 + 1 < pre.length + L + pr.length)) ∧ R3 s B L k p) kk v ∧ kk.length ≤ pre.length * 60 + pr.length) ?_ ?_ ⟨rfl, kk, v, x6, x7, rfl, ht.iff fun k p => ?_, by simpa using hkl⟩
    · rintro pr r po env j next2 hx2 ⟨rfl, kk, v, x6, x7, rfl, ht, hkl⟩ hnx2
      obtain ⟨hj, rfl⟩ := range_pre hx2
      obtain ⟨l, hl⟩ : ∃ l : Nat, l = pre.length + L - 1 + pr.length := ⟨_, rfl⟩
      have el : ((pre.length : Int) + L - 1 + (pr.length : Nat)) = (l : Int) := by omega
      simp only [el]
      simp
      refine sSeq_of fun next3 hn3 => ?_
      simp [-goD]
      refine ⟨by omega, ?_⟩
      rw [show ups 1 (B - 1) = I (upto B) from ups_upto' B]
      have hll : l < s.length := by omega
      have hfl : pre.length + L = l + 1 - pr.length := by omega
      refine goD_filter (fun p : Nat => decide (pre.length + p ≤ l) && hasB ((s.drop pre.length).take (l + 1 - pre.length)) p) (fun p : Nat => D.int p) (fun p hp m2 K2 hT hF => ?_) ?_
      · simp [stepD]
        by_cases c1 : pre.length + p ≤ l
        · rw [if_pos (by omega)]
          have el2 : ((l : Int) + 1) = ((l + 1 : Nat) : Int) := by omega
          rw [el2, cutL_in s (by omega) (by omega)]
          refine ⟨_, p, rfl, by simp; omega, ?_⟩
          simp
          cases c2 : hasB ((s.drop pre.length).take (l + 1 - pre.length)) p with
          | true => simpa using hT (by simp [c1, c2])
          | false => simpa using hF (by simp [c2])
        · rw [if_neg (by omega)]
          exact hF (by simp [c1])
      · refine hn3 _ _ ?_
        obtain ⟨fs, hfs⟩ : ∃ fs, fs = (upto B).filter fun p : Nat => decide (pre.length + p ≤ l) && hasB ((s.drop pre.length).take (l + 1 - pre.length)) p := ⟨_, rfl⟩
        have hfm : ∀ p, p ∈ fs ↔ R2 s B L (pre.length, l) p := fun p => by
          rw [hfs, List.mem_filter, mem_upto, Bool.and_eq_true, decide_eq_true_eq]
          constructor
          · rintro ⟨⟨a, b⟩, c, d⟩
            exact ⟨b, by simp; omega, (hasB_slice (by omega) hll a c).mp d⟩
          · rintro ⟨a, b, c⟩
            exact ⟨⟨c.1, a⟩, c.2.1, (hasB_slice (by omega) hll c.1 c.2.1).mpr c⟩
        have hfp : fs.Pairwise (· < ·) := hfs ▸ (upto_lt B).filter _
        rw [← hfs]
        have hkk : (PN kk).length < 16777216 := by rw [List.length_map]; omega
        cases fs with
        | nil =>
          simp
          refine hnx2 _ _ ⟨rfl, kk, v, _, _, rfl, ht.iff fun k p => ?_, by simp; omega⟩
          have hno : ¬ R2 s B L (pre.length, l) p := fun h => nomatch (hfm p).mpr h
          constructor
          · exact fun g => ⟨by have := g.1; simp; omega, g.2⟩
          · rintro ⟨g1, g2⟩
            refine ⟨?_, g2⟩
            by_cases c : k = (pre.length, l)
            · subst c; exact absurd g2.1 hno
            · rw [Prod.ext_iff] at c
              simp at g1 c
              omega
        | cons p ps =>
          have hp : R3 s B L (pre.length, l) p := ⟨(hfm p).mp (List.mem_cons_self ..), fun p' h' => by
            rcases List.mem_cons.mp ((hfm p').mpr h') with e | e
            · omega
            · have := (List.pairwise_cons.mp hfp).1 p' e; omega⟩
          simp
          refine ⟨plains_I _, a0, PN kk, VN v kk, ⟨rfl, rfl, rfl⟩, by omega, hkk, ?_⟩
          have q1 := putKs_PN kk (pre.length, l)
          have q2 := putVs_PN (v := v) (k := (pre.length, l)) (p := p) ht.1
          simp only at q1 q2
          rw [q1, q2]
          refine hnx2 _ _ ⟨rfl, _, _, _, _, rfl, (ht.put (k := (pre.length, l)) (p := p) fun p' hp' => ?_).iff fun k p' => ?_, by have := put_le (kk := kk) (k := (pre.length, l)); simp; omega⟩
          · exact hp.2 p' hp'.2.1
          · constructor
            · rintro (⟨g1, g2⟩ | ⟨rfl, rfl⟩)
              · exact ⟨by simp; omega, g2⟩
              · exact ⟨by simp; omega, hp⟩
            · rintro ⟨g1, g2⟩
              by_cases c : k = (pre.length, l)
              · subst c
                refine .inr ⟨rfl, ?_⟩
                exact Nat.le_antisymm (g2.2 _ hp.1) (hp.2 _ g2.1)
              · refine .inl ⟨?_, g2⟩
                rw [Prod.ext_iff] at c
                simp at g1 c
                omega
    · rintro env k ⟨rfl, kk, v, x6, x7, rfl, ht, hkl⟩
      refine hnx _ _ ⟨rfl, kk, v, _, _, _, rfl, ht.iff fun k p => ?_, by simp at hkl ⊢; omega⟩
      simp only [List.length_range, List.length_append, List.length_singleton]
      constructor
      · exact fun g => ⟨by omega, g.2⟩
      · rintro ⟨g1, g2⟩
        refine ⟨?_, g2⟩
        have := g2.1.2.2.len
        omega
    · constructor
      · exact fun g => ⟨.inl g.1, g.2⟩
      · rintro ⟨g1, g2⟩
        refine ⟨?_, g2⟩
        have := g2.1.2.1
        simp at g1
        omega
  · rintro env m ⟨rfl, kk, v, x4, x6, x7, rfl, ht, hkl⟩
    refine hn1 _ _ ?_
    refine sSeq_of fun next2 hn2 => ?_
    simp [-goD]
    refine hn2 _ _ ?_
    refine sSeq_of fun next3 hn3 => ?_
    simp [-goD]
    have ht : Tab (R3 s B L) kk v := ht.iff fun k p => by
      simp only [List.length_range]
      exact ⟨fun g => g.2, fun g => ⟨by have := g.1.2.2.len; have := g.1.2.2.2.1; omega, g⟩⟩
    have hkl : kk.length ≤ 60 * 60 := Nat.le_trans hkl (Nat.mul_le_mul_right _ (by rw [List.length_range]; omega))
    refine forD_inv (fun pre env k => k = m ∧ ∃ x4 x6, env = [some (.val (.str s)), some (.val (.int B)), some (.val (.int L)), some (.val (.dcu (PN kk) (VN v kk))), x4, some (.own (PTr ((pre.filter (lone kk)).map fun k => tri k (v k)))), x6, x7, none]) ?_ ?_ ⟨rfl, _, _, rfl⟩
    · rintro pre k post env j next hx ⟨rfl, x4, x6, rfl⟩ hnx
      have hk : k ∈ kk := by rw [hx]; simp
      have hpl : pre.length < kk.length := by rw [hx]; simp
      have hnx : ∀ xs, xs = PTr (((pre ++ [k]).filter (lone kk)).map fun k => tri k (v k)) → next [some (.val (.str s)), some (.val (.int B)), some (.val (.int L)), some (.val (.dcu (PN kk) (VN v kk))), some (.val (.int (k.1 : Nat))), some (.own xs), some (.val (.int (k.2 : Nat))), x7, none] j := fun xs e => by subst e; exact hnx _ _ ⟨rfl, _, _, rfl⟩
      have hfl := List.length_filter_le (lone kk) pre
      simp
      rw [dGet_any, dGet_any]
      have hn1 : lone kk k = true → next [some (.val (.str s)), some (.val (.int B)), some (.val (.int L)), some (.val (.dcu (PN kk) (VN v kk))), some (.val (.int (k.1 : Nat))), some (.own (PTr ((pre.filter (lone kk)).map fun k => tri k (v k)) ++ [.tup [.int (k.1 : Nat), .int (k.2 : Nat), .int (v k : Nat)]])), some (.val (.int (k.2 : Nat))), x7, none] j := fun c => hnx _ (by rw [List.filter_append, List.filter_cons_of_pos c]; simp [PTr])
      have hn0 : lone kk k = false → next [some (.val (.str s)), some (.val (.int B)), some (.val (.int L)), some (.val (.dcu (PN kk) (VN v kk))), some (.val (.int (k.1 : Nat))), some (.own (PTr ((pre.filter (lone kk)).map fun k => tri k (v k)))), some (.val (.int (k.2 : Nat))), x7, none] j := fun c => hnx _ (by rw [List.filter_append, List.filter_cons_of_neg (by simp [c])]; simp)
      unfold lone at hn1 hn0
      simp only [PTr, List.map_map] at hn1 hn0
      refine ⟨by omega, ?_⟩
      cases c1 : kk.any fun x => decide ((x.1 : Int) = k.1 - 1) && decide ((x.2 : Int) = k.2) with
      | true => rw [if_pos rfl]; exact hn0 (by rw [c1]; rfl)
      | false =>
        rw [if_neg (by simp)]
        refine ⟨by omega, ?_⟩
        cases c2 : kk.any fun x => decide ((x.1 : Int) = k.1) && decide ((x.2 : Int) = k.2 + 1) with
        | true => rw [if_pos rfl]; exact hn0 (by rw [c1, c2]; rfl)
        | false =>
          rw [if_neg (by simp)]
          exact ⟨by omega, _, dGet_map (nodup_PN ht.1) hk, by omega, by omega, hn1 (by rw [c1, c2]; rfl)⟩
    · rintro env k ⟨rfl, x4, x6, rfl⟩
      refine hn3 _ _ ?_
      simp
      refine ⟨(kk.filter (lone kk)).map fun k => tri k (v k), by rw [← List.map_map], fun qs hq hp => ⟨fun x hx => ?_, h qs (IsStr.of (ht.1.sublist List.filter_sublist) (fun k => ?_) (fun k hk => ?_) hq hp) (by rw [hq.length_eq, List.length_map]; have := List.length_filter_le (lone kk) kk; omega)⟩⟩
      · obtain ⟨y, _, rfl⟩ := List.mem_map.mp hx
        simp [treeD, treeDs]
      · have ht2 : Tab (R2 s B L) kk v := ⟨ht.1, fun k => ?_, fun k hk => (ht.2.2 k hk).1⟩
        rw [← mx2 ht2 hB hBL, List.mem_filter, lone_iff]
        rw [ht.2.1]
        constructor
        · exact fun ⟨p, h⟩ => ⟨p, h.1⟩
        · rintro ⟨p, h⟩
          exact least_of h
      · exact (ht.2.2 k (List.mem_filter.mp hk).1).1
end K05
namespace K05
open PySem PySem.Spec L2 DL PyProof.Rows St
theorem plains_PTr {k : Nat} : ∀ qs : List SrtO.I3, plains (k + 2) (PTr qs) = true
  | [] => rfl
  | r :: rs => by simp only [List.map_cons, plains, plains_PTr rs]; rfl
def F__law_text_right : FC := fun ds n Q => ∃ (s : List Nat) (B L : Nat), ds = [.str s, .int B, .int L] ∧ low s = true ∧ 2 ≤ B ∧ 2 ≤ L ∧ 2 * B ≤ L + 3 ∧ B ≤ 100 ∧ L ≤ 1000 ∧ s.length ≤ 60 ∧ Q (.val (.bl true)) n
theorem law__law_text_right : ∀ ds n Q, F__law_text_right ds n Q → ds.length = 3 → rd__law_text_right (F_exact 5) F__law_stretches F_stretches { nx := fun _ m => Q (.val .non) m, rt := Q } (startE 2 ds) n := by
  rintro ds n Q ⟨s, B, L, rfl, hs, hB, hL, hBL, hB2, hL2, hz, h⟩ _
  unfold rd__law_text_right
  refine sSeq_of fun next0 hn0 => ?_
  simp
  refine ⟨s, B, L, rfl, hB, hL, hBL, hB2, hL2, hz, fun qs hq hql => ?_⟩
  simp
  refine ⟨s, B, L, rfl, hs, hB, hL, hBL, hz, fun qs' hq' => ?_⟩
  have := hq.uniq hq'
  subst this
  simp
  refine hn0 _ _ ?_
  refine sSeq_of fun next1 hn1 => ?_
  simp
  refine exact_same (by show DL.plains 4 (PTr qs) = true; exact plains_PTr qs) ?_
  simp
  refine hn1 _ _ ?_
  refine sSeq_of fun next2 hn2 => ?_
  simp
  refine ⟨by omega, hn2 _ _ ?_⟩
  simp
  refine ⟨s, B, L, rfl, hs, hB, hL, hBL, hz, fun qs' hq' => ?_⟩
  have := hq.uniq hq'
  subst this
  simp
  refine exact_same (by show DL.plains 4 (PTr qs) = true; exact plains_PTr qs) ?_
  simpa using h
theorem two_no {p q : Nat} (hp : 1 ≤ p) (hq : 1 ≤ q) (hg : Nat.gcd p q = p ∨ Nat.gcd p q = q) {w : List Nat} : twoB p q (.str w) = false := by
  unfold twoB
  simp only
  rcases hg with e | e
  · rw [e]; cases hasB w p <;> simp
  · rw [e]; cases hasB w q <;> simp
def F__law_far_pair_right : FC := fun ds n Q => ∃ p q : Nat, ds = [.int p, .int q] ∧ 1 ≤ p ∧ 1 ≤ q ∧ p ≤ 200 ∧ q ≤ 200 ∧ Q (.val (.bl true)) n
theorem law__law_far_pair_right : ∀ ds n Q, F__law_far_pair_right ds n Q → ds.length = 2 → rd__law_far_pair_right F__law_divisor (F_exact 5) F__law_is_two F_is_two_period_word F_meeting_length F_two_period_word { nx := fun _ m => Q (.val .non) m, rt := Q } (startE 4 ds) n := by
  rintro ds n Q ⟨p, q, rfl, hp, hq, hp2, hq2, h⟩ _
  have hsz := s_line
  unfold rd__law_far_pair_right
  refine sSeq_of fun next0 hn0 => ?_
  simp
  refine ⟨p, q, rfl, hp, hq, by omega, by omega, ?_⟩
  simp
  refine ⟨p, q, rfl, hp, hq, by omega, fun hg => ?_, fun hg1 hg2 w hw => ?_⟩
  · simp
    refine hn0 _ _ ?_
    refine sSeq_of fun next1 hn1 => ?_
    simp
    refine ⟨p, q, rfl, hp, hq, ?_⟩
    simp
    have eb : ((p : Int) == (Nat.gcd p q : Nat) || (q : Int) == (Nat.gcd p q : Nat)) = true := by
      rw [Bool.or_eq_true, beq_iff_eq, beq_iff_eq]
      omega
    rw [eb]
    refine ⟨by omega, exact_same rfl ?_⟩
    simp
    refine hn1 _ _ ?_
    refine sSeq_of fun next2 hn2 => ?_
    simp
    have hf : twoB p q (.str [97, 98]) = false := two_no hp hq hg
    refine ⟨p, q, .str [97, 98], rfl, hp, hq, by omega, by omega, rfl, by simp, ?_⟩
    rw [hf]
    simpa using h
  · have hwB := twoB_of hg1 hg2 hp hq hw
    simp
    refine hn0 _ _ ?_
    refine sSeq_of fun next1 hn1 => ?_
    simp
    refine ⟨p, q, rfl, hp, hq, ?_⟩
    simp
    have eb : ((p : Int) == (Nat.gcd p q : Nat) || (q : Int) == (Nat.gcd p q : Nat)) = false := by
      rw [Bool.or_eq_false_iff, beq_eq_false_iff_ne, beq_eq_false_iff_ne]
      omega
    rw [eb]
    refine ⟨by omega, exact_same rfl ?_⟩
    simp
    refine hn1 _ _ ?_
    refine sSeq_of fun next2 hn2 => ?_
    simp
    refine hn2 _ _ ?_
    refine sSeq_of fun next3 hn3 => ?_
    simp
    have hwl : w.length ≤ 400 := by have := hw.len; omega
    refine ⟨p, q, .str w, rfl, hp, hq, by omega, by omega, rfl, by simp; omega, ?_⟩
    rw [hwB]
    simp
    refine hn3 _ _ ?_
    refine sSeq_of fun next4 hn4 => ?_
    simp [-goD]
    have hc1 : cutL w none (some 1) = w.take 1 := cutL_take1 w
    have hc2 : cutL w (some 1) none = w.drop 1 := cutL_tail w
    rw [hc1, hc2]
    have ht1 : (w.take 1).length ≤ 1 := by rw [List.length_take]; omega
    have el : [D.str (w.drop 1), D.str w, D.str (w ++ w.take 1)] = [w.drop 1, w, w ++ w.take 1].map D.str := rfl
    have hws : ∀ u ∈ [w.drop 1, w, w ++ w.take 1], u.length ≤ 1000 := by
      intro u hu
      simp at hu
      rcases hu with rfl | rfl | rfl
      · simp; omega
      · omega
      · simp; omega
    have hwn : [w.drop 1, w, w ++ w.take 1].length = 3 := rfl
    refine ⟨by omega, by omega, ?_⟩
    rw [el]
    refine goD_map (fun u => D.bl (twoB p q (.str u))) (fun u hu m K hK => ?_) ?_
    · simp [stepD]
      refine ⟨p, q, .str u, rfl, hp, hq, by omega, by omega, rfl, by have := hws u hu; simp; omega, ?_⟩
      simpa using hK
    · refine hn4 _ _ ?_
      simp [-goD]
      rw [hc1, hc2]
      refine ⟨by omega, by omega, ?_⟩
      rw [el]
      have hmap : ([w.drop 1, w, w ++ w.take 1].map fun u => D.bl (twoB p q (.str u))) = [D.bl (twoB p q (.str (w.drop 1))), D.bl (twoB p q (.str w)), D.bl (twoB p q (.str (w ++ w.take 1)))] := rfl
      refine goD_map (fun u => D.bl (twoB p q (.str u))) (fun u hu m K hK => ?_) ?_
      · simp [stepD]
        refine ⟨p, q, .str u, rfl, hp, hq, by omega, by omega, rfl, by have := hws u hu; simp; omega, ?_⟩
        simpa using hK
      · rw [hmap]
        simp
        refine exact_same rfl ?_
        simpa using h
end K05
namespace K05
open PySem PySem.Spec L2 DL PyProof.Rows St
theorem two_pos {p q g : Nat} (h1 : g ≠ p) (h2 : g ≠ q) (hg : 1 ≤ g) (hp : g ≤ p) (hq : g ≤ q) (dp : g ∣ p) (dq : g ∣ q) : 2 ≤ p + q - g - 1 := by omega
def Okv (d : D) : Prop := hasTy d = true ∧ ∀ s, d = .str s → s.length ≤ 10000
theorem okv_app {xs : List D} {d : D} (h : ∀ d ∈ xs, Okv d) (hd : Okv d) : ∀ x ∈ xs ++ [d], Okv x := fun x hx => by
  rcases List.mem_append.mp hx with hx | hx
  · exact h x hx
  · rw [List.mem_singleton.mp hx]; exact hd
def F__law_pair_right : FC := fun ds n Q => ∃ p q : Nat, ds = [dice, .int p, .int q] ∧ 1 ≤ p ∧ 1 ≤ q ∧ p ≤ 60 ∧ q ≤ 60 ∧ n + 1000000 ≤ 1000000000000000000 ∧ ∀ m, n ≤ m → m ≤ n + 1000000 → Q (.val (.bl true)) m
theorem law__law_pair_right : ∀ ds n Q, F__law_pair_right ds n Q → ds.length = 3 → rd__law_pair_right F__law_divisor F_draw (F_exact 5) F__law_is_two F_one_of F_is_two_period_word F_meeting_length F_two_period_word { nx := fun _ m => Q (.val .non) m, rt := Q } (startE 12 ds) n := by
  rintro ds n Q ⟨p, q, rfl, hp, hq, hp2, hq2, hn, h⟩ _
  have hsz := s_line
  unfold rd__law_pair_right
  refine sSeq_of fun next0 hn0 => ?_
  simp
  refine ⟨p, q, rfl, hp, hq, by omega, by omega, ?_⟩
  simp
  have hgp : 1 ≤ Nat.gcd p q := Nat.gcd_pos_of_pos_left _ (by omega)
  have hgl : Nat.gcd p q ≤ p := Nat.gcd_le_left _ (by omega)
  have hgr : Nat.gcd p q ≤ q := Nat.gcd_le_right _ (by omega)
  suffices key : ∀ told : D, (told = .non ∧ (Nat.gcd p q = p ∨ Nat.gcd p q = q) ∨ ∃ w, told = .str w ∧ TwoW p q w ∧ Nat.gcd p q ≠ p ∧ Nat.gcd p q ≠ q) → next0 [some (.val dice), some (.val (.int p)), some (.val (.int q)), some (.val (.int (Nat.gcd p q : Nat))), some (.val told), none, none, none, none, none, none, none, none, none, none] n by
    refine ⟨p, q, rfl, hp, hq, by omega, fun hg => ?_, fun hg1 hg2 w hw => ?_⟩
    · simpa using key _ (.inl ⟨rfl, hg⟩)
    · simpa using key _ (.inr ⟨w, rfl, hw, hg1, hg2⟩)
  intro told ht
  refine hn0 _ _ ?_
  refine sSeq_of fun next1 hn1 => ?_
  simp
  refine ⟨p, q, rfl, hp, hq, ?_⟩
  have eb : ((p : Int) == (Nat.gcd p q : Nat) || (q : Int) == (Nat.gcd p q : Nat)) = decide (told = .non) := by
    rw [Bool.eq_iff_iff, Bool.or_eq_true, beq_iff_eq, beq_iff_eq, decide_eq_true_eq]
    rcases ht with ⟨rfl, hg⟩ | ⟨w, rfl, _, h1, h2⟩
    · exact ⟨fun _ => rfl, fun _ => by omega⟩
    · exact ⟨fun e => by omega, fun e => nomatch e⟩
  simp only [eb]
  refine ⟨by omega, exact_same rfl ?_⟩
  simp
  refine hn1 _ _ ?_
  refine sSeq_of fun next2 hn2 => ?_
  have h2 : next2 [some (.val dice), some (.val (.int p)), some (.val (.int q)), some (.val (.int (Nat.gcd p q : Nat))), some (.val told), none, none, none, none, none, none, none, none, none, none] n → sIf (tAndD (tVal (f2 gNotN (fVar 4) (fC .non))) (tNotD (tTru (fCall 3 F__law_is_two [] (aCons (fVar 1) (aCons (fVar 2) (aCons (fVar 4) aNil))))))) (sRet (fC (.bl false))) sNext { nx := next2, rt := Q } [some (.val dice), some (.val (.int p)), some (.val (.int q)), some (.val (.int (Nat.gcd p q : Nat))), some (.val told), none, none, none, none, none, none, none, none, none, none] n := by
    intro hnx
    rcases ht with ⟨rfl, hg⟩ | ⟨w, rfl, hw, h1, h2⟩
    · simpa using hnx
    · have hwl := hw.len
      have hwB := twoB_of h1 h2 hp hq hw
      simp
      refine ⟨p, q, .str w, rfl, hp, hq, by omega, by omega, rfl, by simp; omega, ?_⟩
      rw [hwB]
      simpa using hnx
  refine h2 (hn2 _ _ ?_)
  clear h2
  refine sSeq_of fun next3 hn3 => ?_
  suffices key : ∀ w : List Nat, w ≠ [] → low w = true → w.length ≤ 200 → next3 [some (.val dice), some (.val (.int p)), some (.val (.int q)), some (.val (.int (Nat.gcd p q : Nat))), some (.val told), some (.val (.str w)), none, none, none, none, none, none, none, none, none] n by
    rcases ht with ⟨rfl, hg⟩ | ⟨w, rfl, hw, h1, h2⟩
    · simp
      exact ⟨by omega, key [97, 98, 97, 98, 97, 98, 97, 98, 97, 98, 97, 98] (by decide) (by decide) (by decide)⟩
    · simp
      have hwl := hw.len
      have h3 := two_pos h1 h2 hgp hgl hgr (Nat.gcd_dvd_left p q) (Nat.gcd_dvd_right p q)
      exact key w (fun e => by rw [e] at hwl; simp at hwl; omega) (low_iff.mpr fun c hc => by rcases hw.ab c hc with rfl | rfl <;> omega) (by omega)
  intro w hw0 hwlow hwl
  refine hn3 _ _ ?_
  refine sSeq_of fun next4 hn4 => ?_
  simp
  have hwpos : 0 < w.length := List.length_pos_iff.mpr hw0
  refine draw_of (by omega) (by omega) (by omega) fun r m1 hr h1 h2 => ?_
  simp
  refine hn4 _ _ ?_
  refine sSeq_of fun next5 hn5 => ?_
  simp
  have e1 : ((r : Int) + 1) = ((r + 1 : Nat) : Int) := by omega
  have ct : cutL w (some 1) none = w.drop 1 := cutL_tail w
  rw [e1, cutL_take, cutL_drop, ct]
  have hlt : (w.take r).length ≤ 200 := by rw [List.length_take]; omega
  have hld : (w.drop (r + 1)).length ≤ 200 := by rw [List.length_drop]; omega
  have hlc : ∀ c ∈ w, 97 ≤ c ∧ c ≤ 122 := low_iff.mp hwlow
  refine ⟨by omega, by omega, by omega, ⟨by omega, fun c hc => by have := hlc c hc; omega⟩, by omega, ?_⟩
  have hox : ∀ d ∈ [D.str w, D.str w.reverse, D.str (w ++ [97]), D.str (w.drop 1), D.str (w.take r ++ 99 :: w.drop (r + 1)), D.str (w.map up1), D.lst (w.map fun c => D.str [c]), D.non, D.int 0, D.str []], Okv d := by
    intro d hd
    have hs : ∀ s : List Nat, s.length ≤ 10000 → Okv (.str s) := fun s hs => ⟨rfl, fun u hu => by cases hu; exact hs⟩
    simp at hd
    rcases hd with rfl | rfl | rfl | rfl | rfl | rfl | rfl | rfl | rfl | rfl
    · exact hs _ (by omega)
    · exact hs _ (by simp; omega)
    · exact hs _ (by simp; omega)
    · exact hs _ (by simp; omega)
    · exact hs _ (by simp at hlt hld ⊢; omega)
    · exact hs _ (by simp; omega)
    · exact ⟨rfl, fun s hs => nomatch hs⟩
    · exact ⟨rfl, fun s hs => nomatch hs⟩
    · exact ⟨rfl, fun s hs => nomatch hs⟩
    · exact hs _ (by simp)
  have hol : [D.str w, D.str w.reverse, D.str (w ++ [97]), D.str (w.drop 1), D.str (w.take r ++ 99 :: w.drop (r + 1)), D.str (w.map up1), D.lst (w.map fun c => D.str [c]), D.non, D.int 0, D.str []].length ≤ 10 := Nat.le_refl _
  generalize [D.str w, D.str w.reverse, D.str (w ++ [97]), D.str (w.drop 1), D.str (w.take r ++ 99 :: w.drop (r + 1)), D.str (w.map up1), D.lst (w.map fun c => D.str [c]), D.non, D.int 0, D.str []] = xs at *
  refine hn5 _ _ ?_
  refine sSeq_of fun next6 hn6 => ?_
  simp
  have e2 : ((p : Int) + q).toNat = p + q := by omega
  rw [e2]
  obtain ⟨sz, hszv⟩ : ∃ sz : Nat, sz = p + q - Nat.gcd p q - 1 := ⟨_, rfl⟩
  have hszi : ((p : Int) + q - (Nat.gcd p q : Nat) - 1) = (sz : Int) := by omega
  have hs : ∀ s : List Nat, s.length ≤ 10000 → Okv (.str s) := fun s hs => ⟨rfl, fun u hu => by cases hu; exact hs⟩
  refine ⟨by omega, by omega, by omega, by omega, ?_⟩
  rw [← hszv]
  have hox2 : ∀ d ∈ xs ++ [D.tup [D.str w], D.dct [] [], D.str (List.replicate sz 97)], Okv d := by
    intro d hd
    rw [List.mem_append] at hd
    rcases hd with hd | hd
    · exact hox d hd
    · simp at hd
      rcases hd with rfl | rfl | rfl
      · exact ⟨rfl, fun s hs => nomatch hs⟩
      · exact ⟨rfl, fun s hs => nomatch hs⟩
      · exact hs _ (by simp; omega)
  have hol2 : (xs ++ [D.tup [D.str w], D.dct [] [], D.str (List.replicate sz 97)]).length ≤ 13 := by simp; omega
  generalize xs ++ [D.tup [D.str w], D.dct [] [], D.str (List.replicate sz 97)] = ys at *
  refine hn6 _ _ ?_
  have hww : ∀ (x : Nat) (u : List Nat), u.length = 1 → True := fun _ _ _ => trivial
  refine sSeq_of fun next7 hn7 => ?_
  simp [-goD]
  refine goD_map (fun c : Nat => D.str [if c = 97 then 120 else 121]) (fun c hc m K hK => ?_) ?_
  · by_cases e : c = 97
    · subst e; simp [stepD] at hK ⊢; exact ⟨by omega, hK⟩
    · simp [stepD, e] at hK ⊢; exact ⟨by omega, hK⟩
  have hj1 : (w.map fun c : Nat => D.str [if c = 97 then 120 else 121]) = ((w.map fun c : Nat => if c = 97 then 120 else 121).map fun c => [c]).map D.str := by simp [List.map_map, Function.comp_def]
  rw [hj1]
  have hwm : ∀ f : Nat → Nat, (w.map f).length ≤ 200 := fun f => by rw [List.length_map]; exact hwl
  refine join_ones (by have := hwm fun c : Nat => if c = 97 then 120 else 121; omega) ⟨by omega, hn7 _ _ ?_⟩
  have hox3 := okv_app hox2 (hs (w.map fun c : Nat => if c = 97 then 120 else 121) (by have := hwm fun c : Nat => if c = 97 then 120 else 121; omega))
  have hol3 : (ys ++ [D.str (w.map fun c : Nat => if c = 97 then 120 else 121)]).length ≤ 14 := by simp; omega
  generalize ys ++ [D.str (w.map fun c : Nat => if c = 97 then 120 else 121)] = ys at *
  refine sSeq_of fun next8 hn8 => ?_
  simp [-goD]
  refine goD_map (fun c : Nat => D.str [if c = 97 then 45 else 49]) (fun c hc m K hK => ?_) ?_
  · by_cases e : c = 97
    · subst e; simp [stepD] at hK ⊢; exact ⟨by omega, hK⟩
    · simp [stepD, e] at hK ⊢; exact ⟨by omega, hK⟩
  have hj2 : (w.map fun c : Nat => D.str [if c = 97 then 45 else 49]) = ((w.map fun c : Nat => if c = 97 then 45 else 49).map fun c => [c]).map D.str := by simp [List.map_map, Function.comp_def]
  rw [hj2]
  refine join_ones (by have := hwm fun c : Nat => if c = 97 then 45 else 49; omega) ⟨by omega, hn8 _ _ ?_⟩
  have hox4 := okv_app hox3 (hs (w.map fun c : Nat => if c = 97 then 45 else 49) (by have := hwm fun c : Nat => if c = 97 then 45 else 49; omega))
  have hol4 : (ys ++ [D.str (w.map fun c : Nat => if c = 97 then 45 else 49)]).length ≤ 15 := by simp; omega
  generalize ys ++ [D.str (w.map fun c : Nat => if c = 97 then 45 else 49)] = ys at *
  refine sSeq_of fun next9 hn9 => ?_
  simp
  rw [hszi]
  refine hn9 _ _ ?_
  refine sSeq_of fun next10 hn10 => ?_
  simp
  have emn : (min (p : Int) q) = ((min p q : Nat) : Int) := by omega
  rw [emn]
  refine draw_of (by omega) (by omega) (by omega) fun r2 m2 hr2 h3 h4 => ?_
  rw [cutL_take]
  generalize hhd : (w ++ [97, 98, 97, 98, 97, 98, 97, 98, 97, 98, 97, 98, 97, 98, 97, 98, 97, 98, 97, 98, 97, 98, 97, 98]).take (min p q) = hd
  have hhl : hd.length ≤ 60 := by rw [← hhd, List.length_take]; omega
  simp
  refine ⟨by omega, by omega, hn10 _ _ ?_⟩
  refine sSeq_of fun next11 hn11 => ?_
  simp
  refine ⟨by omega, ?_⟩
  refine ⟨_, rfl, by simp, by decide, by simp only [DRW, LIM]; omega, fun x m3 hx h5 h6 => ?_⟩
  simp only [DRW] at h6
  obtain ⟨c, rfl⟩ : ∃ c : Nat, x = .str [c] := by
    simp at hx
    rcases hx with rfl | rfl | rfl <;> exact ⟨_, rfl⟩
  have er2 : ((r2 : Int) + 1) = ((r2 + 1 : Nat) : Int) := by omega
  rw [er2, cutL_take, cutL_drop]
  have hlt2 : (hd.take r2).length ≤ 60 := by rw [List.length_take]; omega
  have hld2 : (hd.drop (r2 + 1)).length ≤ 60 := by rw [List.length_drop]; omega
  suffices key : ∀ u : List Nat, u.length ≤ 200 → next11 [some (.val dice), some (.val (.int p)), some (.val (.int q)), some (.val (.int (Nat.gcd p q : Nat))), some (.val told), some (.val (.str w)), some (.val (.int r)), some (.own (ys ++ [.str u])), some (.val (.int sz)), some (.val (.int (min p q : Nat))), some (.val (.int r2)), some (.val (.str hd)), none, none, none] m3 by
    simp
    refine ⟨by omega, by omega, by omega, by omega, key _ ?_⟩
    rw [cutL_take]
    exact Nat.le_trans (List.length_take_le ..) (by omega)
  intro u hu
  have hox5 := okv_app hox4 (hs u (by omega))
  have hol5 : (ys ++ [D.str u]).length ≤ 16 := by simp; omega
  generalize ys ++ [D.str u] = ys at *
  refine hn11 _ _ ?_
  refine sSeq_of fun next12 hn12 => ?_
  simp [-goD]
  refine ⟨by omega, ?_⟩
  rw [ups_eq]
  refine goD_draws DRW (fun y => ∃ c : Nat, y = .str [c] ∧ c ∈ [97, 98]) (m3 + DRW * 60) (by simp only [DRW]; simp; omega) (fun a ha m K hm hK => ?_) fun zs m4 h7 h8 hzs hzl => ?_
  · simp only [DRW] at hm
    simp [stepD]
    refine ⟨by omega, _, rfl, by simp, by decide, by simp only [DRW, LIM]; omega, fun x m5 hx hx1 hx2 => ?_⟩
    simp at hx
    rcases hx with rfl | rfl
    · exact hK _ _ hx1 hx2 ⟨97, rfl, by simp⟩
    · exact hK _ _ hx1 hx2 ⟨98, rfl, by simp⟩
  obtain ⟨cs, rfl, hcs⟩ := ones_of hzs
  simp at hzl
  simp only [DRW] at h8
  simp at h8
  refine join_ones (by omega) ?_
  suffices key : ∀ u : List Nat, u.length ≤ 200 → next12 [some (.val dice), some (.val (.int p)), some (.val (.int q)), some (.val (.int (Nat.gcd p q : Nat))), some (.val told), some (.val (.str w)), some (.val (.int r)), some (.own (ys ++ [.str u])), some (.val (.int sz)), some (.val (.int (min p q : Nat))), some (.val (.int r2)), some (.val (.str hd)), none, none, none] m4 by
    simp
    refine ⟨by omega, by omega, key _ ?_⟩
    rw [cutL_take]
    exact Nat.le_trans (List.length_take_le ..) (by omega)
  intro u hu
  have hox6 := okv_app hox5 (hs u (by omega))
  generalize ys ++ [D.str u] = ys at *
  refine hn12 _ _ ?_
  refine sSeq_of fun next13 hn13 => ?_
  simp
  refine forD_inv0 (fun pre env m => m = m4 ∧ ∃ x12, env = [some (.val dice), some (.val (.int p)), some (.val (.int q)), some (.val (.int (Nat.gcd p q : Nat))), some (.val told), some (.val (.str w)), some (.val (.int r)), some (.val (.lst ys)), some (.val (.int sz)), some (.val (.int (min p q : Nat))), some (.val (.int r2)), some (.val (.str hd)), x12, none, none]) ?_ ?_ ⟨rfl, _, rfl⟩
  · rintro pre d post env m next hx ⟨rfl, x12, rfl⟩ hnx
    have hd := hox6 d (by rw [hx]; simp)
    simp
    refine ⟨p, q, d, rfl, hp, hq, by omega, by omega, hd.1, hd.2, ?_⟩
    simp
    refine ⟨p, q, d, rfl, hp, hq, by omega, by omega, hd.1, hd.2, ?_⟩
    simp
    refine exact_same rfl ?_
    simp
    exact hnx _ _ ⟨rfl, _, rfl⟩
  · rintro env m ⟨rfl, x12, rfl⟩
    refine hn13 _ _ ?_
    simp
    exact h _ (by omega) (by omega)
end K05
namespace K05
open PySem PySem.Spec L2 DL PyProof.Rows St
theorem str_none {s : List Nat} {B L : Nat} {qs : List SrtO.I3} (h : IsStr s B L qs) (hl : s.length < L) : qs = [] := by
  cases qs with
  | nil => rfl
  | cons t qs =>
    obtain ⟨k, p, _, hm, h2, _⟩ := (h.2.2 t).mp (List.mem_cons_self ..)
    have := h2.2.2.len
    have := h2.2.1
    omega
instance (s : List Nat) (p f l : Nat) : Decidable (Pr s p f l) :=
  decidable_of_iff (1 ≤ p ∧ f + p ≤ l ∧ ∀ i, i < l + 1 → f ≤ i → i + p ≤ l → Al s p i) ⟨fun ⟨a, b, c⟩ => ⟨a, b, fun i h1 h2 => c i (by omega) h1 h2⟩, fun ⟨a, b, c⟩ => ⟨a, b, fun i _ h1 h2 => c i h1 h2⟩⟩
theorem str_one : IsStr [97, 97, 98, 97, 98] 3 3 [(1, 4, 2)] := by
  have e1 : ∀ l < 5, ∀ p < 3, 3 ≤ l + 1 → ¬ Pr [97, 97, 98, 97, 98] p 0 l := by decide
  have e2 : ∀ p < 3, Pr [97, 97, 98, 97, 98] p 1 4 → p = 2 := by decide
  have e3 : Pr [97, 97, 98, 97, 98] 2 1 4 := by decide
  have hin : ∀ k, Ev [97, 97, 98, 97, 98] 3 3 k → St.In k (1, 4) := by
    rintro ⟨f, l⟩ ⟨h1, p, h2, h3⟩
    have hl := h3.len
    simp at h1 hl h3
    refine ⟨?_, by simp; omega⟩
    show 1 ≤ f
    by_cases c : f = 0
    · subst c; exact absurd h3 (e1 l hl p h2 (by omega))
    · omega
  have hr : ∀ p, R2 [97, 97, 98, 97, 98] 3 3 (1, 4) p → p = 2 := fun p h => e2 p h.1 h.2.2
  have hr2 : R2 [97, 97, 98, 97, 98] 3 3 (1, 4) 2 := ⟨by decide, by decide, e3⟩
  have hE : Ev [97, 97, 98, 97, 98] 3 3 (1, 4) := ⟨by decide, 2, by decide, e3⟩
  refine ⟨by simp, by simp, fun t => ?_⟩
  rw [List.mem_singleton]
  constructor
  · rintro rfl
    exact ⟨(1, 4), 2, rfl, ⟨hE, fun k' h1 h2 => in_anti h2 (hin k' h1)⟩, hr2, fun p' hp' => by rw [hr p' hp']; exact Nat.le_refl _⟩
  · rintro ⟨k, p, rfl, hm, h2, _⟩
    have := hm.2 (1, 4) hE (hin k hm.1)
    subst this
    rw [hr p h2]
    rfl
theorem law_law : ∀ ds n Q, F_law ds n Q → ds.length = 1 → rd_law F_dices F_draw (F_exact 5) F__law_far_pair_right F__law_ground F_one_of F__law_pair_right F__law_text F__law_text_right F__law_words_meet F_meeting_length F_stretches F_two_period_word { nx := fun _ m => Q (.val .non) m, rt := Q } (startE 10 ds) n := by
  rintro ds n Q ⟨ns, rfl, hns, rfl, h⟩ _
  have hsz := s_line
  unfold rd_law
  refine sSeq_of fun next0 hn0 => ?_
  simp
  refine ⟨ns, 1, rfl, hns, by decide, by decide, fun k hk1 hk2 => ?_⟩
  simp
  refine dices_inv (c := 10000000000000000) (fun env => ∃ x1 x2 x3 x4 x5 x6 x7 x8 x9 x10, env = [some (.val (.scr ns)), x1, x2, x3, x4, x5, x6, x7, x8, x9, x10]) (by omega) (by omega) ?_ ?_ ⟨_, _, _, _, _, _, _, _, _, _, rfl⟩
  · rintro env n next ⟨x1, x2, x3, x4, x5, x6, x7, x8, x9, x10, rfl⟩ hb hnx
    simp
    refine sSeq_of fun next1 hn1 => ?_
    simp
    rw [ups_eq]
    refine forD_inv (fun (pre : List Nat) env k => (∃ x3 x4 x5, env = [some (.val (.scr ns)), some (.val dice), x2, x3, x4, x5, x6, x7, x8, x9, x10]) ∧ n ≤ k ∧ k ≤ n + 10000000 * pre.length) ?_ ?_ ⟨⟨_, _, _, rfl⟩, Nat.le_refl _, by simp⟩
    · rintro pre a post env m next2 hx ⟨⟨x3, x4, x5, rfl⟩, h1, h2⟩ hn2
      have hpl : pre.length < 3 := by
        have := congrArg List.length hx
        simp at this
        omega
      simp
      refine sSeq_of fun next3 hn3 => ?_
      simp
      refine draw_of (by omega) (by omega) (by omega) fun r m1 hr h3 h4 => ?_
      simp
      refine draw_of (by omega) (by omega) (by omega) fun r2 m2 hr2 h5 h6 => ?_
      simp
      refine hn3 _ _ ?_
      have e1 : (1 + (r : Int)) = ((1 + r : Nat) : Int) := by omega
      have e2 : (1 + (r2 : Int)) = ((1 + r2 : Nat) : Int) := by omega
      rw [e1, e2]
      simp
      refine ⟨1 + r, 1 + r2, by simp, by omega, by omega, by omega, by omega, by omega, fun m3 h7 h8 => ?_⟩
      simp
      refine ⟨1 + r2, 1 + r, by simp, by omega, by omega, by omega, by omega, by omega, fun m4 h9 h10 => ?_⟩
      simp
      exact hn2 _ _ ⟨⟨_, _, _, rfl⟩, by omega, by rw [List.length_append, List.length_singleton]; exact step_le h2 (d := 10000000) (by omega) (by omega)⟩
    · rintro env m ⟨⟨x3, x4, x5, rfl⟩, h1, h2⟩
      simp only [List.length_range] at h2
      refine hn1 _ _ ?_
      refine sSeq_of fun next2 hn2 => ?_
      simp
      refine draw_of (by omega) (by omega) (by omega) fun r m1 hr h3 h4 => ?_
      simp
      refine draw_of (by omega) (by omega) (by omega) fun r2 m2 hr2 h5 h6 => ?_
      simp
      refine hn2 _ _ ?_
      refine sSeq_of fun next3 hn3 => ?_
      simp
      refine ⟨1 + r, 1 + r2, by simp, by omega, by omega, by omega, by omega, by omega, fun m3 h7 h8 => ?_⟩
      simp
      refine hn3 _ _ ?_
      refine sSeq_of fun next4 hn4 => ?_
      simp
      refine draw_of (by omega) (by omega) (by omega) fun r3 m4 hr3 h9 h10 => ?_
      simp
      refine draw_of (by omega) (by omega) (by omega) fun r4 m5 hr4 h11 h12 => ?_
      simp
      refine hn4 _ _ ?_
      refine sSeq_of fun next5 hn5 => ?_
      simp
      refine ⟨61 + r3, 1 + r4, by simp, by omega, by omega, by omega, by omega, ?_⟩
      simp
      refine ⟨1 + r4, 61 + r3, by simp, by omega, by omega, by omega, by omega, ?_⟩
      simp
      refine hn5 _ _ ?_
      refine sSeq_of fun next6 hn6 => ?_
      simp
      refine draw_of (by omega) (by omega) (by omega) fun r5 m6 hr5 h13 h14 => ?_
      simp
      refine draw_of (by omega) (by omega) (by omega) fun r6 m7 hr6 h15 h16 => ?_
      simp
      refine ⟨1 + r5, 1 + r6, by simp, by omega, by omega, by omega, by omega, ?_⟩
      simp
      refine hn6 _ _ ?_
      refine sSeq_of fun next7 hn7 => ?_
      simp
      refine ⟨80, rfl, by omega, by simp only [DRW, LIM]; omega, fun s g m8 hG h17 h18 => ?_⟩
      simp only [DRW] at h18
      obtain ⟨hs1, hs2, hg1, hg2⟩ := hG.two
      have hs0 : s ≠ [] := fun e => by rw [e] at hs1; simp at hs1
      simp
      refine hn7 _ _ ?_
      simp
      rw [ups_eq]
      have hlow : low s = true := hG.let_.low
      have hslow := low_iff.mp hlow
      refine forD_inv (fun (pre : List Nat) env k => (∃ x3 x4 x5 x7 x8 x9, env = [some (.val (.scr ns)), some (.val dice), x2, x3, x4, x5, some (.val (.tup [.str s, .int (g : Nat)])), x7, x8, x9, x10]) ∧ m8 ≤ k ∧ k ≤ m8 + 100000000000 * pre.length) ?_ ?_ ⟨⟨_, _, _, _, _, _, rfl⟩, Nat.le_refl _, by simp⟩
      · rintro pre a post env m next8 hx ⟨⟨y3, y4, y5, y7, y8, y9, rfl⟩, h19, h20⟩ hn8
        have hpl : pre.length < 3 := by
          have := congrArg List.length hx
          simp at this
          omega
        simp
        refine sSeq_of fun next9 hn9 => ?_
        simp
        refine draw_of (by omega) (by omega) (by omega) fun b m9 hb2 h21 h22 => ?_
        simp
        refine hn9 _ _ ?_
        refine sSeq_of fun next10 hn10 => ?_
        simp
        refine text_of (most := 24) hs0 (by omega) hlow (by omega) (by omega) (by omega) (by omega) fun t m10 ht0 ht htl h23 h24 => ?_
        simp
        refine hn10 _ _ ?_
        refine sSeq_of fun next11 hn11 => ?_
        suffices key : ∀ (u : List Nat) (B m : Nat) x9, low u = true → u.length ≤ 60 → 2 ≤ B → B ≤ 14 → m10 ≤ m → m ≤ m10 + 100000 → next11 [some (.val (.scr ns)), some (.val dice), x2, some (.val (.int (a : Nat))), y4, y5, some (.val (.tup [.str s, .int (g : Nat)])), some (.val (.int B)), some (.val (.str u)), x9, x10] m by
          simp only [-goD, sIf, tVal, f2]
          simp [-goD]
          refine draw_of (by omega) (by omega) (by omega) fun r8 m11 hr8 h25 h26 => ?_
          simp [-goD]
          by_cases c : r8 = 0
          · subst c
            simp [-goD]
            refine sSeq_of fun next12 hn12 => ?_
            simp [-goD]
            refine draw_of (by omega) (by omega) (by omega) fun r9 m12 hr9 h27 h28 => ?_
            simp [-goD]
            refine ⟨by omega, ?_⟩
            have er9 : (5 + (r9 : Int)).toNat = 5 + r9 := by omega
            rw [er9, ups_eq]
            refine goD_draws DRW (fun y => ∃ c : Nat, y = .str [c] ∧ c ∈ s) (m12 + DRW * 12) (by simp only [DRW]; simp; omega) (fun a ha m K hm hK => ?_) fun zs m13 h29 h30 hzs hzl => ?_
            · simp only [DRW] at hm
              simp [stepD]
              refine ⟨_, rfl, by simpa using hs0, by simp; omega, by simp only [DRW, LIM]; omega, fun x m5 hx hx1 hx2 => ?_⟩
              obtain ⟨c, hc, rfl⟩ := List.mem_map.mp hx
              exact hK _ _ hx1 hx2 ⟨c, rfl, hc⟩
            obtain ⟨cs, rfl, hcs⟩ := ones_of hzs
            simp at hzl
            simp only [DRW] at h30
            simp at h30
            refine join_ones (by omega) ?_
            refine hn12 _ _ ?_
            simp
            have ct : cutL t none (some 9) = t.take 9 := cutL_take t 9
            rw [ct]
            have htl9 : (t.take 9).length ≤ 9 := List.length_take_le ..
            refine ⟨by omega, by omega, ?_⟩
            refine draw_of (by omega) (by omega) (by omega) fun r10 m14 hr10 h31 h32 => ?_
            simp
            have e2b : (5 + (r10 : Int)) = ((5 + r10 : Nat) : Int) := by omega
            rw [e2b]
            refine key (cs ++ (cs ++ (cs ++ t.take 9))) (5 + r10) m14 _ (low_iff.mpr fun c hc => ?_) (by simp only [List.length_append]; omega) (by omega) (by omega) (by omega) (by omega)
            have hcs' : ∀ c ∈ cs, 97 ≤ c ∧ c ≤ 122 := fun c hc => hslow c (hcs c hc)
            rcases List.mem_append.mp hc with hc | hc
            · exact hcs' c hc
            · rcases List.mem_append.mp hc with hc | hc
              · exact hcs' c hc
              · rcases List.mem_append.mp hc with hc | hc
                · exact hcs' c hc
                · exact hslow c (ht c (List.mem_of_mem_take hc))
          · simp [c]
            have e2b : (2 + (b : Int)) = ((2 + b : Nat) : Int) := by omega
            rw [e2b]
            exact key t (2 + b) m11 _ (low_iff.mpr fun c hc => hslow c (ht c hc)) (by omega) (by omega) (by omega) (by omega) (by omega)
        intro u B m11 x9 hu hul hB1 hB2 h25 h26
        refine hn11 _ _ ?_
        simp
        refine ⟨MulOk.left (by omega), ?_⟩
        refine draw_of (by omega) (by omega) (by omega) fun r7 m12 hr7 h27 h28 => ?_
        simp
        refine ⟨u, B, (max 2 (2 * B - 3)) + r7, by simp; omega, hu, hB1, by omega, by omega, by omega, by omega, hul, ?_⟩
        simp
        exact hn8 _ _ ⟨⟨_, _, _, _, _, _, rfl⟩, by omega, by rw [List.length_append, List.length_singleton]; exact step_le h20 (d := 100000000000) (by omega) (by omega)⟩
      · rintro env m ⟨⟨y3, y4, y5, y7, y8, y9, rfl⟩, h19, h20⟩
        simp only [List.length_range] at h20
        exact hnx _ _ ⟨_, _, _, _, _, _, _, _, _, _, rfl⟩ (by omega)
  · rintro env m ⟨x1, x2, x3, x4, x5, x6, x7, x8, x9, x10, rfl⟩
    intro hm
    refine hn0 _ _ ?_
    refine sSeq_of fun next1 hn1 => ?_
    simp
    have hP : CPowW 10 29 := ⟨by decide, by decide⟩
    refine ⟨hP, MulOk.left (by decide), [97, 98, 97, 98], 100000000000000000000000000000, 200000000000000000000000000000, rfl, by decide, by decide, by decide, by decide, by decide, fun qs hq => ?_⟩
    have := str_none hq (by decide)
    subst this
    refine ⟨[97, 97, 98, 97, 98], 3, 3, rfl, by decide, by decide, by decide, by decide, by decide, fun qs2 hq2 => ?_⟩
    have := hq2.uniq str_one
    subst this
    refine ⟨hP, [], 9, 100000000000000000000000000000, rfl, by decide, by decide, by decide, by decide, by decide, fun qs3 hq3 => ?_⟩
    have := str_none hq3 (by decide)
    subst this
    refine ⟨by omega, hn1 _ _ ?_⟩
    refine sSeq_of fun next2 hn2 => ?_
    simp
    refine ⟨by omega, by omega, by omega, exact_same rfl ?_⟩
    simp
    refine hn2 _ _ ?_
    simp
    refine ⟨120, 120, rfl, by decide, by decide, ?_⟩
    simp
    refine ⟨1, 1, rfl, by decide, by decide, by decide, fun _ => ?_, fun h1 _ => absurd (by decide) h1⟩
    simp
    refine ⟨60, 120, rfl, by decide, by decide, by decide, fun _ => ?_, fun h1 _ => absurd (by decide) h1⟩
    simp
    refine ⟨by omega, exact_same rfl ?_⟩
    simpa using h m
end K05
namespace K05
open PySem PySem.Spec PyProof.Rows L2 DL
def topS (i : Nat) : Stmt := PySem.Challenge.pw_owncuts_k05_whole_meeting_periods_and_st.main.body.getD i (.Pass ⟨0, 0, 0, 0⟩)
abbrev s_is_whole : Stmt := topS 6
theorem sc_is_whole : FnScope ["value"] ["value"] (defScope s_is_whole) := ⟨rfl, rfl, rfl, by decide +kernel, rfl, by decide +kernel, by decide +kernel⟩
abbrev s_is_count : Stmt := topS 7
theorem sc_is_count : FnScope ["value", "most"] ["value", "most"] (defScope s_is_count) := ⟨rfl, rfl, rfl, by decide +kernel, rfl, by decide +kernel, by decide +kernel⟩
abbrev s_is_text : Stmt := topS 8
theorem sc_is_text : FnScope ["value", "sign"] ["value"] (defScope s_is_text) := ⟨rfl, rfl, rfl, by decide +kernel, rfl, by decide +kernel, by decide +kernel⟩
abbrev s_is_word : Stmt := topS 9
theorem sc_is_word : FnScope ["value"] ["value"] (defScope s_is_word) := ⟨rfl, rfl, rfl, by decide +kernel, rfl, by decide +kernel, by decide +kernel⟩
abbrev s_check_text : Stmt := topS 10
theorem sc_check_text : FnScope ["value"] ["value"] (defScope s_check_text) := ⟨rfl, rfl, rfl, by decide +kernel, rfl, by decide +kernel, by decide +kernel⟩
abbrev s_check_from : Stmt := topS 11
theorem sc_check_from : FnScope ["value", "least"] ["value", "least"] (defScope s_check_from) := ⟨rfl, rfl, rfl, by decide +kernel, rfl, by decide +kernel, by decide +kernel⟩
abbrev s_has : Stmt := topS 13
theorem sc_has : FnScope ["text", "period"] ["text", "period"] (defScope s_has) := ⟨rfl, rfl, rfl, by decide +kernel, rfl, by decide +kernel, by decide +kernel⟩
abbrev s_divisor : Stmt := topS 14
theorem sc_divisor : FnScope ["one", "other"] ["one", "other"] (defScope s_divisor) := ⟨rfl, rfl, rfl, by decide +kernel, rfl, by decide +kernel, by decide +kernel⟩
abbrev s_meeting_length : Stmt := topS 15
theorem sc_meeting_length : FnScope ["one", "other"] ["one", "other"] (defScope s_meeting_length) := ⟨rfl, rfl, rfl, by decide +kernel, rfl, by decide +kernel, by decide +kernel⟩
abbrev s_linked : Stmt := topS 16
theorem sc_linked : FnScope ["length", "one", "other", "found", "spin", "at", "some", "late"] ["length", "one", "other"] (defScope s_linked) := ⟨rfl, rfl, rfl, by decide +kernel, rfl, by decide +kernel, by decide +kernel⟩
abbrev s_two_period_word : Stmt := topS 17
theorem sc_two_period_word : FnScope ["one", "other", "length", "part", "heads", "some", "at", "head"] ["one", "other"] (defScope s_two_period_word) := ⟨rfl, rfl, rfl, by decide +kernel, rfl, by decide +kernel, by decide +kernel⟩
abbrev s_is_two_period_word : Stmt := topS 18
theorem sc_is_two_period_word : FnScope ["one", "other", "value", "length", "part", "period"] ["one", "other", "value"] (defScope s_is_two_period_word) := ⟨rfl, rfl, rfl, by decide +kernel, rfl, by decide +kernel, by decide +kernel⟩
abbrev s_rows_of : Stmt := topS 19
theorem sc_rows_of : FnScope ["text", "period", "found", "first", "at", "is_alike"] ["text", "period"] (defScope s_rows_of) := ⟨rfl, rfl, rfl, by decide +kernel, rfl, by decide +kernel, by decide +kernel⟩
abbrev s_stretches_in : Stmt := topS 20
theorem sc_stretches_in : FnScope ["text", "below", "least", "found", "period", "inner", "first", "last", "one", "late"] ["text", "below", "least"] (defScope s_stretches_in) := ⟨rfl, rfl, rfl, by decide +kernel, rfl, by decide +kernel, by decide +kernel⟩
abbrev s_stretches : Stmt := topS 21
theorem sc_stretches : FnScope ["text", "below", "least"] ["text", "below", "least"] (defScope s_stretches) := ⟨rfl, rfl, rfl, by decide +kernel, rfl, by decide +kernel, by decide +kernel⟩
abbrev s__law_dice : Stmt := topS 23
theorem sc__law_dice : FnScope ["script", "at", "seed"] ["script", "at"] (defScope s__law_dice) := ⟨rfl, rfl, rfl, by decide +kernel, rfl, by decide +kernel, by decide +kernel⟩
abbrev s__law_mixed : Stmt := topS 24
theorem sc__law_mixed : FnScope ["seed", "spin", "at", "mixed"] ["seed", "spin", "at"] (defScope s__law_mixed) := ⟨rfl, rfl, rfl, by decide +kernel, rfl, by decide +kernel, by decide +kernel⟩
abbrev s__law_draw : Stmt := topS 25
theorem sc__law_draw : FnScope ["dice", "many", "found", "piece", "drawn"] ["dice", "many"] (defScope s__law_draw) := ⟨rfl, rfl, rfl, by decide +kernel, rfl, by decide +kernel, by decide +kernel⟩
abbrev s__law_one_of : Stmt := topS 26
theorem sc__law_one_of : FnScope ["dice", "some"] ["dice", "some"] (defScope s__law_one_of) := ⟨rfl, rfl, rfl, by decide +kernel, rfl, by decide +kernel, by decide +kernel⟩
abbrev s__law_exact : Stmt := topS 27
theorem sc__law_exact : FnScope ["mine", "theirs", "is_like", "a", "b", "key"] ["mine", "theirs"] (defScope s__law_exact) := ⟨rfl, rfl, rfl, by decide +kernel, rfl, by decide +kernel, by decide +kernel⟩
abbrev s__law_dices : Stmt := topS 28
theorem sc__law_dices : FnScope ["script", "few", "at"] ["script", "few"] (defScope s__law_dices) := ⟨rfl, rfl, rfl, by decide +kernel, rfl, by decide +kernel, by decide +kernel⟩
abbrev s__law_letters : Stmt := topS 29
theorem sc__law_letters : FnScope ["dice", "many", "found", "spin", "late", "sign"] ["dice", "many"] (defScope s__law_letters) := ⟨rfl, rfl, rfl, by decide +kernel, rfl, by decide +kernel, by decide +kernel⟩
abbrev s__law_ground : Stmt := topS 30
theorem sc__law_ground : FnScope ["dice", "most", "some", "many", "signs", "gap", "at"] ["dice", "most"] (defScope s__law_ground) := ⟨rfl, rfl, rfl, by decide +kernel, rfl, by decide +kernel, by decide +kernel⟩
abbrev s__law_words_of : Stmt := topS 31
theorem sc__law_words_of : FnScope ["signs", "size", "found", "spin", "longer", "word", "sign"] ["signs", "size"] (defScope s__law_words_of) := ⟨rfl, rfl, rfl, by decide +kernel, rfl, by decide +kernel, by decide +kernel⟩
abbrev s__law_text : Stmt := topS 32
theorem sc__law_text : FnScope ["dice", "ground", "most", "signs", "found", "size", "way", "word", "spin"] ["dice", "ground", "most"] (defScope s__law_text) := ⟨rfl, rfl, rfl, by decide +kernel, rfl, by decide +kernel, by decide +kernel⟩
abbrev s__law_divisor : Stmt := topS 33
theorem sc__law_divisor : FnScope ["one", "other", "late"] ["one", "other"] (defScope s__law_divisor) := ⟨rfl, rfl, rfl, by decide +kernel, rfl, by decide +kernel, by decide +kernel⟩
abbrev s__law_has : Stmt := topS 34
theorem sc__law_has : FnScope ["word", "period"] ["word", "period"] (defScope s__law_has) := ⟨rfl, rfl, rfl, by decide +kernel, rfl, by decide +kernel, by decide +kernel⟩
abbrev s__law_is_two : Stmt := topS 35
theorem sc__law_is_two : FnScope ["one", "other", "value", "part", "sign"] ["one", "other", "value"] (defScope s__law_is_two) := ⟨rfl, rfl, rfl, by decide +kernel, rfl, by decide +kernel, by decide +kernel⟩
abbrev s__law_pair_right : Stmt := topS 36
theorem sc__law_pair_right : FnScope ["dice", "one", "other", "part", "told", "some", "at", "odds", "size", "short", "spot", "head", "value", "sign", "spin"] ["dice", "one", "other"] (defScope s__law_pair_right) := ⟨rfl, rfl, rfl, by decide +kernel, rfl, by decide +kernel, by decide +kernel⟩
abbrev s__law_far_pair_right : Stmt := topS 37
theorem sc__law_far_pair_right : FnScope ["one", "other", "part", "told", "judged", "value"] ["one", "other"] (defScope s__law_far_pair_right) := ⟨rfl, rfl, rfl, by decide +kernel, rfl, by decide +kernel, by decide +kernel⟩
abbrev s__law_words_meet : Stmt := topS 38
theorem sc__law_words_meet : FnScope ["one", "other", "part", "size", "some", "word"] ["one", "other"] (defScope s__law_words_meet) := ⟨rfl, rfl, rfl, by decide +kernel, rfl, by decide +kernel, by decide +kernel⟩
abbrev s__law_stretches : Stmt := topS 39
theorem sc__law_stretches : FnScope ["text", "below", "least", "found", "first", "alone", "last", "some", "period"] ["text", "below", "least"] (defScope s__law_stretches) := ⟨rfl, rfl, rfl, by decide +kernel, rfl, by decide +kernel, by decide +kernel⟩
abbrev s__law_text_right : Stmt := topS 40
theorem sc__law_text_right : FnScope ["text", "below", "least", "due", "told"] ["text", "below", "least"] (defScope s__law_text_right) := ⟨rfl, rfl, rfl, by decide +kernel, rfl, by decide +kernel, by decide +kernel⟩
abbrev s_law : Stmt := topS 41
theorem sc_law : FnScope ["script", "dice", "told", "spin", "one", "other", "ground", "below", "text", "word", "late"] ["script"] (defScope s_law) := ⟨rfl, rfl, rfl, by decide +kernel, rfl, by decide +kernel, by decide +kernel⟩
structure Top (K : PySem.W.Frag) (mg : Str → Option Value) where
  a_is_whole : Addr
  d_is_whole : FuncData
  m_is_whole : mg "is_whole" = some (.ref a_is_whole)
  f_is_whole : Fun K "is_whole" "is_whole" s_is_whole a_is_whole d_is_whole
  a_is_count : Addr
  d_is_count : FuncData
  m_is_count : mg "is_count" = some (.ref a_is_count)
  f_is_count : FunD K "is_count" "is_count" (defArgs s_is_count) (defBody s_is_count) (defScope s_is_count) [V.non] [] a_is_count d_is_count
  a_is_text : Addr
  d_is_text : FuncData
  m_is_text : mg "is_text" = some (.ref a_is_text)
  f_is_text : Fun K "is_text" "is_text" s_is_text a_is_text d_is_text
  a_is_word : Addr
  d_is_word : FuncData
  m_is_word : mg "is_word" = some (.ref a_is_word)
  f_is_word : Fun K "is_word" "is_word" s_is_word a_is_word d_is_word
  a_check_text : Addr
  d_check_text : FuncData
  m_check_text : mg "check_text" = some (.ref a_check_text)
  f_check_text : Fun K "check_text" "check_text" s_check_text a_check_text d_check_text
  a_check_from : Addr
  d_check_from : FuncData
  m_check_from : mg "check_from" = some (.ref a_check_from)
  f_check_from : Fun K "check_from" "check_from" s_check_from a_check_from d_check_from
  a_has : Addr
  d_has : FuncData
  m_has : mg "has" = some (.ref a_has)
  f_has : Fun K "has" "has" s_has a_has d_has
  a_divisor : Addr
  d_divisor : FuncData
  m_divisor : mg "divisor" = some (.ref a_divisor)
  f_divisor : Fun K "divisor" "divisor" s_divisor a_divisor d_divisor
  a_meeting_length : Addr
  d_meeting_length : FuncData
  m_meeting_length : mg "meeting_length" = some (.ref a_meeting_length)
  f_meeting_length : Fun K "meeting_length" "meeting_length" s_meeting_length a_meeting_length d_meeting_length
  a_linked : Addr
  d_linked : FuncData
  m_linked : mg "linked" = some (.ref a_linked)
  f_linked : Fun K "linked" "linked" s_linked a_linked d_linked
  a_two_period_word : Addr
  d_two_period_word : FuncData
  m_two_period_word : mg "two_period_word" = some (.ref a_two_period_word)
  f_two_period_word : Fun K "two_period_word" "two_period_word" s_two_period_word a_two_period_word d_two_period_word
  a_is_two_period_word : Addr
  d_is_two_period_word : FuncData
  m_is_two_period_word : mg "is_two_period_word" = some (.ref a_is_two_period_word)
  f_is_two_period_word : Fun K "is_two_period_word" "is_two_period_word" s_is_two_period_word a_is_two_period_word d_is_two_period_word
  a_rows_of : Addr
  d_rows_of : FuncData
  m_rows_of : mg "rows_of" = some (.ref a_rows_of)
  f_rows_of : Fun K "rows_of" "rows_of" s_rows_of a_rows_of d_rows_of
  a_stretches_in : Addr
  d_stretches_in : FuncData
  m_stretches_in : mg "stretches_in" = some (.ref a_stretches_in)
  f_stretches_in : Fun K "stretches_in" "stretches_in" s_stretches_in a_stretches_in d_stretches_in
  a_stretches : Addr
  d_stretches : FuncData
  m_stretches : mg "stretches" = some (.ref a_stretches)
  f_stretches : Fun K "stretches" "stretches" s_stretches a_stretches d_stretches
  a__law_dice : Addr
  d__law_dice : FuncData
  m__law_dice : mg "_law_dice" = some (.ref a__law_dice)
  f__law_dice : Fun K "_law_dice" "_law_dice" s__law_dice a__law_dice d__law_dice
  a__law_mixed : Addr
  d__law_mixed : FuncData
  m__law_mixed : mg "_law_mixed" = some (.ref a__law_mixed)
  f__law_mixed : Fun K "_law_mixed" "_law_mixed" s__law_mixed a__law_mixed d__law_mixed
  a__law_draw : Addr
  d__law_draw : FuncData
  m__law_draw : mg "_law_draw" = some (.ref a__law_draw)
  f__law_draw : Fun K "_law_draw" "_law_draw" s__law_draw a__law_draw d__law_draw
  a__law_one_of : Addr
  d__law_one_of : FuncData
  m__law_one_of : mg "_law_one_of" = some (.ref a__law_one_of)
  f__law_one_of : Fun K "_law_one_of" "_law_one_of" s__law_one_of a__law_one_of d__law_one_of
  a__law_exact : Addr
  d__law_exact : FuncData
  m__law_exact : mg "_law_exact" = some (.ref a__law_exact)
  f__law_exact : Fun K "_law_exact" "_law_exact" s__law_exact a__law_exact d__law_exact
  a__law_dices : Addr
  d__law_dices : FuncData
  m__law_dices : mg "_law_dices" = some (.ref a__law_dices)
  f__law_dices : Fun K "_law_dices" "_law_dices" s__law_dices a__law_dices d__law_dices
  a__law_letters : Addr
  d__law_letters : FuncData
  m__law_letters : mg "_law_letters" = some (.ref a__law_letters)
  f__law_letters : Fun K "_law_letters" "_law_letters" s__law_letters a__law_letters d__law_letters
  a__law_ground : Addr
  d__law_ground : FuncData
  m__law_ground : mg "_law_ground" = some (.ref a__law_ground)
  f__law_ground : Fun K "_law_ground" "_law_ground" s__law_ground a__law_ground d__law_ground
  a__law_words_of : Addr
  d__law_words_of : FuncData
  m__law_words_of : mg "_law_words_of" = some (.ref a__law_words_of)
  f__law_words_of : Fun K "_law_words_of" "_law_words_of" s__law_words_of a__law_words_of d__law_words_of
  a__law_text : Addr
  d__law_text : FuncData
  m__law_text : mg "_law_text" = some (.ref a__law_text)
  f__law_text : Fun K "_law_text" "_law_text" s__law_text a__law_text d__law_text
  a__law_divisor : Addr
  d__law_divisor : FuncData
  m__law_divisor : mg "_law_divisor" = some (.ref a__law_divisor)
  f__law_divisor : Fun K "_law_divisor" "_law_divisor" s__law_divisor a__law_divisor d__law_divisor
  a__law_has : Addr
  d__law_has : FuncData
  m__law_has : mg "_law_has" = some (.ref a__law_has)
  f__law_has : Fun K "_law_has" "_law_has" s__law_has a__law_has d__law_has
  a__law_is_two : Addr
  d__law_is_two : FuncData
  m__law_is_two : mg "_law_is_two" = some (.ref a__law_is_two)
  f__law_is_two : Fun K "_law_is_two" "_law_is_two" s__law_is_two a__law_is_two d__law_is_two
  a__law_pair_right : Addr
  d__law_pair_right : FuncData
  m__law_pair_right : mg "_law_pair_right" = some (.ref a__law_pair_right)
  f__law_pair_right : Fun K "_law_pair_right" "_law_pair_right" s__law_pair_right a__law_pair_right d__law_pair_right
  a__law_far_pair_right : Addr
  d__law_far_pair_right : FuncData
  m__law_far_pair_right : mg "_law_far_pair_right" = some (.ref a__law_far_pair_right)
  f__law_far_pair_right : Fun K "_law_far_pair_right" "_law_far_pair_right" s__law_far_pair_right a__law_far_pair_right d__law_far_pair_right
  a__law_words_meet : Addr
  d__law_words_meet : FuncData
  m__law_words_meet : mg "_law_words_meet" = some (.ref a__law_words_meet)
  f__law_words_meet : Fun K "_law_words_meet" "_law_words_meet" s__law_words_meet a__law_words_meet d__law_words_meet
  a__law_stretches : Addr
  d__law_stretches : FuncData
  m__law_stretches : mg "_law_stretches" = some (.ref a__law_stretches)
  f__law_stretches : Fun K "_law_stretches" "_law_stretches" s__law_stretches a__law_stretches d__law_stretches
  a__law_text_right : Addr
  d__law_text_right : FuncData
  m__law_text_right : mg "_law_text_right" = some (.ref a__law_text_right)
  f__law_text_right : Fun K "_law_text_right" "_law_text_right" s__law_text_right a__law_text_right d__law_text_right
  a_law : Addr
  d_law : FuncData
  m_law : mg "law" = some (.ref a_law)
  f_law : Fun K "law" "law" s_law a_law d_law
  g_all : mg "all" = none
  g_bool : mg "bool" = none
  g_dict : mg "dict" = none
  g_int : mg "int" = none
  g_isinstance : mg "isinstance" = none
  g_len : mg "len" = none
  g_list : mg "list" = none
  g_max : mg "max" = none
  g_min : mg "min" = none
  g_range : mg "range" = none
  g_sorted : mg "sorted" = none
  g_str : mg "str" = none
  g_sum : mg "sum" = none
  g_tuple : mg "tuple" = none
  g_zip : mg "zip" = none
  bind_law : ∀ (s : Shared) (v : Value), BindsTo s d_law ⟨[v], []⟩ [("script", v)]
section
variable {κ : Kit} {P : Program} {w : World} {K : PySem.W.Frag} {mg : Str → Option Value} {base : Heap}
theorem b_is_whole (T : Top K mg) : Binds K T.d_is_whole ["value"] [] := T.f_is_whole.binds fun _ _ _ _ _ _ us hl => match us, hl with | [_], _ => rfl
theorem b_is_count_0 (T : Top K mg) : ∃ ds, Vals [] ds ∧ Binds K T.d_is_count ["value", "most"] ds := T.f_is_count.binds1 (ps := ["value", "most"]) 2 1 (by simp) rfl fun T kV doc pm an cdv ct us its hl hi => match us, its, hl, hi with | [_, _], [_], _, _ => ⟨_, rfl, rfl⟩
theorem b_is_count_1 (T : Top K mg) : ∃ ds, Vals [V.non] ds ∧ Binds K T.d_is_count ["value", "most"] ds := T.f_is_count.binds1 (ps := ["value", "most"]) 1 0 (by simp) rfl fun T kV doc pm an cdv ct us its hl hi => match us, its, hl, hi with | [_], [_], _, _ => ⟨_, rfl, rfl⟩
theorem b_is_text (T : Top K mg) : Binds K T.d_is_text ["value"] [] := T.f_is_text.binds fun _ _ _ _ _ _ us hl => match us, hl with | [_], _ => rfl
theorem b_is_word (T : Top K mg) : Binds K T.d_is_word ["value"] [] := T.f_is_word.binds fun _ _ _ _ _ _ us hl => match us, hl with | [_], _ => rfl
theorem b_check_text (T : Top K mg) : Binds K T.d_check_text ["value"] [] := T.f_check_text.binds fun _ _ _ _ _ _ us hl => match us, hl with | [_], _ => rfl
theorem b_check_from (T : Top K mg) : Binds K T.d_check_from ["value", "least"] [] := T.f_check_from.binds fun _ _ _ _ _ _ us hl => match us, hl with | [_, _], _ => rfl
theorem b_has (T : Top K mg) : Binds K T.d_has ["text", "period"] [] := T.f_has.binds fun _ _ _ _ _ _ us hl => match us, hl with | [_, _], _ => rfl
theorem b_divisor (T : Top K mg) : Binds K T.d_divisor ["one", "other"] [] := T.f_divisor.binds fun _ _ _ _ _ _ us hl => match us, hl with | [_, _], _ => rfl
theorem b_meeting_length (T : Top K mg) : Binds K T.d_meeting_length ["one", "other"] [] := T.f_meeting_length.binds fun _ _ _ _ _ _ us hl => match us, hl with | [_, _], _ => rfl
theorem b_linked (T : Top K mg) : Binds K T.d_linked ["length", "one", "other"] [] := T.f_linked.binds fun _ _ _ _ _ _ us hl => match us, hl with | [_, _, _], _ => rfl
theorem b_two_period_word (T : Top K mg) : Binds K T.d_two_period_word ["one", "other"] [] := T.f_two_period_word.binds fun _ _ _ _ _ _ us hl => match us, hl with | [_, _], _ => rfl
theorem b_is_two_period_word (T : Top K mg) : Binds K T.d_is_two_period_word ["one", "other", "value"] [] := T.f_is_two_period_word.binds fun _ _ _ _ _ _ us hl => match us, hl with | [_, _, _], _ => rfl
theorem b_rows_of (T : Top K mg) : Binds K T.d_rows_of ["text", "period"] [] := T.f_rows_of.binds fun _ _ _ _ _ _ us hl => match us, hl with | [_, _], _ => rfl
theorem b_stretches_in (T : Top K mg) : Binds K T.d_stretches_in ["text", "below", "least"] [] := T.f_stretches_in.binds fun _ _ _ _ _ _ us hl => match us, hl with | [_, _, _], _ => rfl
theorem b_stretches (T : Top K mg) : Binds K T.d_stretches ["text", "below", "least"] [] := T.f_stretches.binds fun _ _ _ _ _ _ us hl => match us, hl with | [_, _, _], _ => rfl
theorem b__law_dice (T : Top K mg) : Binds K T.d__law_dice ["script", "at"] [] := T.f__law_dice.binds fun _ _ _ _ _ _ us hl => match us, hl with | [_, _], _ => rfl
theorem b__law_mixed (T : Top K mg) : Binds K T.d__law_mixed ["seed", "spin", "at"] [] := T.f__law_mixed.binds fun _ _ _ _ _ _ us hl => match us, hl with | [_, _, _], _ => rfl
theorem b__law_draw (T : Top K mg) : Binds K T.d__law_draw ["dice", "many"] [] := T.f__law_draw.binds fun _ _ _ _ _ _ us hl => match us, hl with | [_, _], _ => rfl
theorem b__law_one_of (T : Top K mg) : Binds K T.d__law_one_of ["dice", "some"] [] := T.f__law_one_of.binds fun _ _ _ _ _ _ us hl => match us, hl with | [_, _], _ => rfl
theorem b__law_exact (T : Top K mg) : Binds K T.d__law_exact ["mine", "theirs"] [] := T.f__law_exact.binds fun _ _ _ _ _ _ us hl => match us, hl with | [_, _], _ => rfl
theorem b__law_dices (T : Top K mg) : Binds K T.d__law_dices ["script", "few"] [] := T.f__law_dices.binds fun _ _ _ _ _ _ us hl => match us, hl with | [_, _], _ => rfl
theorem b__law_letters (T : Top K mg) : Binds K T.d__law_letters ["dice", "many"] [] := T.f__law_letters.binds fun _ _ _ _ _ _ us hl => match us, hl with | [_, _], _ => rfl
theorem b__law_ground (T : Top K mg) : Binds K T.d__law_ground ["dice", "most"] [] := T.f__law_ground.binds fun _ _ _ _ _ _ us hl => match us, hl with | [_, _], _ => rfl
theorem b__law_words_of (T : Top K mg) : Binds K T.d__law_words_of ["signs", "size"] [] := T.f__law_words_of.binds fun _ _ _ _ _ _ us hl => match us, hl with | [_, _], _ => rfl
theorem b__law_text (T : Top K mg) : Binds K T.d__law_text ["dice", "ground", "most"] [] := T.f__law_text.binds fun _ _ _ _ _ _ us hl => match us, hl with | [_, _, _], _ => rfl
theorem b__law_divisor (T : Top K mg) : Binds K T.d__law_divisor ["one", "other"] [] := T.f__law_divisor.binds fun _ _ _ _ _ _ us hl => match us, hl with | [_, _], _ => rfl
theorem b__law_has (T : Top K mg) : Binds K T.d__law_has ["word", "period"] [] := T.f__law_has.binds fun _ _ _ _ _ _ us hl => match us, hl with | [_, _], _ => rfl
theorem b__law_is_two (T : Top K mg) : Binds K T.d__law_is_two ["one", "other", "value"] [] := T.f__law_is_two.binds fun _ _ _ _ _ _ us hl => match us, hl with | [_, _, _], _ => rfl
theorem b__law_pair_right (T : Top K mg) : Binds K T.d__law_pair_right ["dice", "one", "other"] [] := T.f__law_pair_right.binds fun _ _ _ _ _ _ us hl => match us, hl with | [_, _, _], _ => rfl
theorem b__law_far_pair_right (T : Top K mg) : Binds K T.d__law_far_pair_right ["one", "other"] [] := T.f__law_far_pair_right.binds fun _ _ _ _ _ _ us hl => match us, hl with | [_, _], _ => rfl
theorem b__law_words_meet (T : Top K mg) : Binds K T.d__law_words_meet ["one", "other"] [] := T.f__law_words_meet.binds fun _ _ _ _ _ _ us hl => match us, hl with | [_, _], _ => rfl
theorem b__law_stretches (T : Top K mg) : Binds K T.d__law_stretches ["text", "below", "least"] [] := T.f__law_stretches.binds fun _ _ _ _ _ _ us hl => match us, hl with | [_, _, _], _ => rfl
theorem b__law_text_right (T : Top K mg) : Binds K T.d__law_text_right ["text", "below", "least"] [] := T.f__law_text_right.binds fun _ _ _ _ _ _ us hl => match us, hl with | [_, _, _], _ => rfl
theorem b_law (T : Top K mg) : Binds K T.d_law ["script"] [] := T.f_law.binds fun _ _ _ _ _ _ us hl => match us, hl with | [_], _ => rfl
theorem ok_is_whole (T : Top K mg) {F : FC} (hF : ∀ ds n Q, F ds n Q → ds.length = 1 → rd_is_whole { nx := fun _ m => Q (.val .non) m, rt := Q } (startE 0 ds) n) (hk : κ.K = K) : FnOk P w K mg base CX0 (0 + 1) T.a_is_whole T.d_is_whole ["value"] (spD κ 1 F) := by
  subst hk
  refine fn_dl T.f_is_whole sc_is_whole (fun cdv A outer s H E hr => ?_) hF
  exact (ds_one (d1_ret (de_and (e_isi .int T.g_isinstance T.g_int (v 0)) (de_one (de_not (e_isi .bool T.g_isinstance T.g_bool (v 0)))))))
theorem cal_is_whole {k : Nat} {F : FC} (T : Top K mg) (h : FnOk P w K mg base CX0 k T.a_is_whole T.d_is_whole ["value"] (spD κ 1 F)) : Cal κ P w K mg base "is_whole" k 1 F [] := ⟨_, _, _, [], [], h, T.m_is_whole, T.f_is_whole.kp, b_is_whole T, .nil, fun _ _ => .nil⟩
theorem ok_is_count (T : Top K mg) {F_is_whole : FC} (c_is_whole : Cal κ P w K mg base "is_whole" 1 1 F_is_whole []) {F : FC} (hF : ∀ ds n Q, F ds n Q → ds.length = 2 → rd_is_count F_is_whole { nx := fun _ m => Q (.val .non) m, rt := Q } (startE 0 ds) n) (hk : κ.K = K) : FnOk P w K mg base CX0 (1 + 1) T.a_is_count T.d_is_count ["value", "most"] (spD κ 2 F) := by
  subst hk
  refine fn_dlD T.f_is_count sc_is_count (fun cdv A outer s H E hr => ?_) hF
  exact (ds_one (d1_ret (de_and (DX.de (dx_call c_is_whole hr (da_cons (v 0) da_nil))) (de_and (e_ge (v 0) de_int) (de_one (de_or (e_isN (v 1) de_non) (de_one (e_le (v 0) (v 1)))))))))
theorem cal_is_count_0 {k : Nat} {F : FC} (T : Top K mg) (h : FnOk P w K mg base CX0 k T.a_is_count T.d_is_count ["value", "most"] (spD κ 2 F)) : Cal κ P w K mg base "is_count" k 2 F [] := by
  obtain ⟨ds, h1, h2⟩ := b_is_count_0 T
  exact ⟨_, _, _, [], ds, h, T.m_is_count, T.f_is_count.kp, h2, h1, fun _ _ => .nil⟩
theorem cal_is_count_1 {k : Nat} {F : FC} (T : Top K mg) (h : FnOk P w K mg base CX0 k T.a_is_count T.d_is_count ["value", "most"] (spD κ 2 F)) : Cal κ P w K mg base "is_count" k 2 F [.non] := by
  obtain ⟨ds, h1, h2⟩ := b_is_count_1 T
  exact ⟨_, _, _, [V.non], ds, h, T.m_is_count, T.f_is_count.kp, h2, h1, fun _ _ => .cons .non (.nil)⟩
theorem ok_is_text (T : Top K mg) {F : FC} (hF : ∀ ds n Q, F ds n Q → ds.length = 1 → rd_is_text { nx := fun _ m => Q (.val .non) m, rt := Q } (startE 1 ds) n) (hk : κ.K = K) : FnOk P w K mg base CX0 (0 + 1) T.a_is_text T.d_is_text ["value"] (spD κ 1 F) := by
  subst hk
  refine fn_dl T.f_is_text sc_is_text (fun cdv A outer s H E hr => ?_) hF
  exact (ds_one (d1_ret (de_and (e_isi .str T.g_isinstance T.g_str (v 0)) (de_one (e_all T.g_all (DO.fr (o_comp [("sign", 1)] sc_is_text.nd (i_name 0) (fun _ _ _ _ _ => (G_n 1 sc_is_text.nd)) (fun _ _ _ _ _ => dts_nil) (fun _ _ _ _ _ => (e_chain cr_le cr_le (c_str [97]) (v 1) (c_str [122]))))))))))
theorem cal_is_text {k : Nat} {F : FC} (T : Top K mg) (h : FnOk P w K mg base CX0 k T.a_is_text T.d_is_text ["value"] (spD κ 1 F)) : Cal κ P w K mg base "is_text" k 1 F [] := ⟨_, _, _, [], [], h, T.m_is_text, T.f_is_text.kp, b_is_text T, .nil, fun _ _ => .nil⟩
theorem ok_is_word (T : Top K mg) {F_is_text : FC} (c_is_text : Cal κ P w K mg base "is_text" 1 1 F_is_text []) {F : FC} (hF : ∀ ds n Q, F ds n Q → ds.length = 1 → rd_is_word F_is_text { nx := fun _ m => Q (.val .non) m, rt := Q } (startE 0 ds) n) (hk : κ.K = K) : FnOk P w K mg base CX0 (1 + 1) T.a_is_word T.d_is_word ["value"] (spD κ 1 F) := by
  subst hk
  refine fn_dl T.f_is_word sc_is_word (fun cdv A outer s H E hr => ?_) hF
  exact (ds_one (d1_ret (de_and (DX.de (dx_call c_is_text hr (da_cons (v 0) da_nil))) (de_one (e_ne hr (v 0) (c_str []))))))
theorem cal_is_word {k : Nat} {F : FC} (T : Top K mg) (h : FnOk P w K mg base CX0 k T.a_is_word T.d_is_word ["value"] (spD κ 1 F)) : Cal κ P w K mg base "is_word" k 1 F [] := ⟨_, _, _, [], [], h, T.m_is_word, T.f_is_word.kp, b_is_word T, .nil, fun _ _ => .nil⟩
theorem ok_check_text (T : Top K mg) {F_is_text : FC} (c_is_text : Cal κ P w K mg base "is_text" 1 1 F_is_text []) {F : FC} (hF : ∀ ds n Q, F ds n Q → ds.length = 1 → rd_check_text F_is_text { nx := fun _ m => Q (.val .non) m, rt := Q } (startE 0 ds) n) (hk : κ.K = K) : FnOk P w K mg base CX0 (1 + 1) T.a_check_text T.d_check_text ["value"] (spD κ 1 F) := by
  subst hk
  refine fn_dl T.f_check_text sc_check_text (fun cdv A outer s H E hr => ?_) hF
  exact (ds_one (d1_if (dt_not (dt_tru (DX.de (dx_call c_is_text hr (da_cons (v 0) da_nil))))) (ds_one d1_never) ds_nil))
theorem cal_check_text {k : Nat} {F : FC} (T : Top K mg) (h : FnOk P w K mg base CX0 k T.a_check_text T.d_check_text ["value"] (spD κ 1 F)) : Cal κ P w K mg base "check_text" k 1 F [] := ⟨_, _, _, [], [], h, T.m_check_text, T.f_check_text.kp, b_check_text T, .nil, fun _ _ => .nil⟩
theorem ok_check_from (T : Top K mg) {F_is_count : FC} (c_is_count_1 : Cal κ P w K mg base "is_count" 2 2 F_is_count [.non]) {F : FC} (hF : ∀ ds n Q, F ds n Q → ds.length = 2 → rd_check_from F_is_count { nx := fun _ m => Q (.val .non) m, rt := Q } (startE 0 ds) n) (hk : κ.K = K) : FnOk P w K mg base CX0 (2 + 1) T.a_check_from T.d_check_from ["value", "least"] (spD κ 2 F) := by
  subst hk
  refine fn_dl T.f_check_from sc_check_from (fun cdv A outer s H E hr => ?_) hF
  exact (ds_one (d1_if (DW.dt (dw_or (dt_not (dt_tru (DX.de (dx_call c_is_count_1 hr (da_cons (v 0) da_nil))))) (dw_or1 (t_lt (v 0) (v 1))))) (ds_one d1_never) ds_nil))
theorem cal_check_from {k : Nat} {F : FC} (T : Top K mg) (h : FnOk P w K mg base CX0 k T.a_check_from T.d_check_from ["value", "least"] (spD κ 2 F)) : Cal κ P w K mg base "check_from" k 2 F [] := ⟨_, _, _, [], [], h, T.m_check_from, T.f_check_from.kp, b_check_from T, .nil, fun _ _ => .nil⟩
theorem ok_has (T : Top K mg) {F : FC} (hF : ∀ ds n Q, F ds n Q → ds.length = 2 → rd_has { nx := fun _ m => Q (.val .non) m, rt := Q } (startE 0 ds) n) (hk : κ.K = K) : FnOk P w K mg base CX0 (0 + 1) T.a_has T.d_has ["text", "period"] (spD κ 2 F) := by
  subst hk
  refine fn_dl T.f_has sc_has (fun cdv A outer s H E hr => ?_) hF
  exact (ds_one (d1_ret (de_and (e_lt (v 1) (e_len T.g_len (v 0))) (de_one (e_eq hr (e_sl (v 0) (dp_some (v 1)) dp_none) (e_sl (v 0) dp_none (dp_some (e_sub (e_len T.g_len (v 0)) (v 1)))))))))
theorem cal_has {k : Nat} {F : FC} (T : Top K mg) (h : FnOk P w K mg base CX0 k T.a_has T.d_has ["text", "period"] (spD κ 2 F)) : Cal κ P w K mg base "has" k 2 F [] := ⟨_, _, _, [], [], h, T.m_has, T.f_has.kp, b_has T, .nil, fun _ _ => .nil⟩
theorem ok_divisor (T : Top K mg) {F : FC} (hF : ∀ ds n Q, F ds n Q → ds.length = 2 → rd_divisor { nx := fun _ m => Q (.val .non) m, rt := Q } (startE 0 ds) n) (hk : κ.K = K) : FnOk P w K mg base CX0 (0 + 1) T.a_divisor T.d_divisor ["one", "other"] (spD κ 2 F) := by
  subst hk
  refine fn_dl T.f_divisor sc_divisor (fun cdv A outer s H E hr => ?_) hF
  exact (ds_cons (S_while (t_gt (v 1) de_int) (ds_one (S_par 0 1 sc_divisor.nd (dxs_cons (dx_v (v 1)) (dxs_cons (dx_v (e_mod (v 0) (v 1))) dxs_nil))))) (ds_one (d1_ret (v 0))))
theorem cal_divisor {k : Nat} {F : FC} (T : Top K mg) (h : FnOk P w K mg base CX0 k T.a_divisor T.d_divisor ["one", "other"] (spD κ 2 F)) : Cal κ P w K mg base "divisor" k 2 F [] := ⟨_, _, _, [], [], h, T.m_divisor, T.f_divisor.kp, b_divisor T, .nil, fun _ _ => .nil⟩
theorem ok_meeting_length (T : Top K mg) {F_check_from : FC} {F_divisor : FC} (c_check_from : Cal κ P w K mg base "check_from" 3 2 F_check_from []) (c_divisor : Cal κ P w K mg base "divisor" 1 2 F_divisor []) {F : FC} (hF : ∀ ds n Q, F ds n Q → ds.length = 2 → rd_meeting_length F_check_from F_divisor { nx := fun _ m => Q (.val .non) m, rt := Q } (startE 0 ds) n) (hk : κ.K = K) : FnOk P w K mg base CX0 (3 + 1) T.a_meeting_length T.d_meeting_length ["one", "other"] (spD κ 2 F) := by
  subst hk
  refine fn_dl T.f_meeting_length sc_meeting_length (fun cdv A outer s H E hr => ?_) hF
  exact (ds_cons (d1_expr (DX.de (dx_call c_check_from hr (da_cons (v 0) (da_cons de_int da_nil))))) (ds_cons (d1_expr (DX.de (dx_call c_check_from hr (da_cons (v 1) (da_cons de_int da_nil))))) (ds_one (d1_ret (e_sub (e_add (v 0) (v 1)) (DX.de (dx_call c_divisor hr (da_cons (v 0) (da_cons (v 1) da_nil)))))))))
theorem cal_meeting_length {k : Nat} {F : FC} (T : Top K mg) (h : FnOk P w K mg base CX0 k T.a_meeting_length T.d_meeting_length ["one", "other"] (spD κ 2 F)) : Cal κ P w K mg base "meeting_length" k 2 F [] := ⟨_, _, _, [], [], h, T.m_meeting_length, T.f_meeting_length.kp, b_meeting_length T, .nil, fun _ _ => .nil⟩
theorem ok_linked (T : Top K mg) {F : FC} (hF : ∀ ds n Q, F ds n Q → ds.length = 3 → rd_linked { nx := fun _ m => Q (.val .non) m, rt := Q } (startE 5 ds) n) (hk : κ.K = K) : FnOk P w K mg base CX0 (0 + 1) T.a_linked T.d_linked ["length", "one", "other"] (spD κ 3 F) := by
  subst hk
  refine fn_dl T.f_linked sc_linked (fun cdv A outer s H E hr => ?_) hF
  exact (ds_cons (S_asgO 3 sc_linked.nd (o_listR1 T.g_list T.g_range (v 0))) (ds_cons (S_for (i_r1 T.g_range (v 0)) (N_n 4 sc_linked.nd) (ds_one (S_for (i_r1 T.g_range (v 0)) (N_n 5 sc_linked.nd) (ds_cons (S_lcVF 6 [("late", 7)] sc_linked.nd (i_seq (de_tup (da_cons (e_sub (v 5) (v 1)) (da_cons (e_sub (v 5) (v 2)) (da_cons (e_add (v 5) (v 1)) (da_cons (e_add (v 5) (v 2)) da_nil)))))) (fun _ _ _ _ _ => (G_n 7 sc_linked.nd)) (fun _ _ _ _ _ => (dts_one (t_chain cr_le cr_lt de_int (v 7) (v 0)))) (fun _ _ _ _ _ => (e_ix hr (v 3) (v 7)))) (ds_one (S_set 3 (e_min T.g_min (da_cons (DO.fr (do_lst (da_cons (e_ix hr (v 3) (v 5)) (da_star (v 6) da_nil)))) da_nil)) (v 5))))))) (ds_one (S_retS 3))))
theorem cal_linked {k : Nat} {F : FC} (T : Top K mg) (h : FnOk P w K mg base CX0 k T.a_linked T.d_linked ["length", "one", "other"] (spD κ 3 F)) : Cal κ P w K mg base "linked" k 3 F [] := ⟨_, _, _, [], [], h, T.m_linked, T.f_linked.kp, b_linked T, .nil, fun _ _ => .nil⟩
theorem ok_two_period_word (T : Top K mg) {F_divisor : FC} {F_linked : FC} {F_meeting_length : FC} (c_divisor : Cal κ P w K mg base "divisor" 1 2 F_divisor []) (c_linked : Cal κ P w K mg base "linked" 1 3 F_linked []) (c_meeting_length : Cal κ P w K mg base "meeting_length" 4 2 F_meeting_length []) {F : FC} (hF : ∀ ds n Q, F ds n Q → ds.length = 2 → rd_two_period_word F_divisor F_linked F_meeting_length { nx := fun _ m => Q (.val .non) m, rt := Q } (startE 6 ds) n) (hk : κ.K = K) : FnOk P w K mg base CX0 (4 + 1) T.a_two_period_word T.d_two_period_word ["one", "other"] (spD κ 2 F) := by
  subst hk
  refine fn_dl T.f_two_period_word sc_two_period_word (fun cdv A outer s H E hr => ?_) hF
  exact (ds_cons (S_tup (dxs_cons (dx_v (e_sub (DX.de (dx_call c_meeting_length hr (da_cons (v 0) (da_cons (v 1) da_nil)))) de_int)) (dxs_cons (dx_v (DX.de (dx_call c_divisor hr (da_cons (v 0) (da_cons (v 1) da_nil))))) dxs_nil)) (X_n 2 sc_two_period_word.nd (X_n 3 sc_two_period_word.nd names_nil))) (ds_cons (S_asg 4 sc_two_period_word.nd (DX.de (dx_call c_linked hr (da_cons (v 2) (da_cons (v 0) (da_cons (v 1) da_nil)))))) (ds_cons (S_asg 5 sc_two_period_word.nd (DO.fr (o_comp [("at", 6)] sc_two_period_word.nd (i_r1 T.g_range (e_sub (v 2) (v 3))) (fun _ _ _ _ _ => (G_n 6 sc_two_period_word.nd)) (fun _ _ _ _ _ => (dts_one (t_ne hr (e_ix hr (v 4) (v 6)) (e_ix hr (v 4) (e_add (v 6) (v 3)))))) (fun _ _ _ _ _ => (v 6))))) (ds_cons (d1_if (t_eq hr (v 5) (DO.fr (do_lst da_nil))) (ds_one (d1_ret de_non)) ds_nil) (ds_one (d1_ret (de_join (c_str []) (DO.fr (o_comp [("head", 7)] sc_two_period_word.nd (i_name 4) (fun _ _ _ _ _ => (G_n 7 sc_two_period_word.nd)) (fun _ _ _ _ _ => dts_nil) (fun _ _ _ _ _ => (de_if (t_eq hr (v 7) (e_ix hr (v 4) (e_ix hr (v 5) de_int))) (c_str [97]) (c_str [98]))))))))))))
theorem cal_two_period_word {k : Nat} {F : FC} (T : Top K mg) (h : FnOk P w K mg base CX0 k T.a_two_period_word T.d_two_period_word ["one", "other"] (spD κ 2 F)) : Cal κ P w K mg base "two_period_word" k 2 F [] := ⟨_, _, _, [], [], h, T.m_two_period_word, T.f_two_period_word.kp, b_two_period_word T, .nil, fun _ _ => .nil⟩
theorem ok_is_two_period_word (T : Top K mg) {F_divisor : FC} {F_has : FC} {F_is_word : FC} {F_meeting_length : FC} (c_divisor : Cal κ P w K mg base "divisor" 1 2 F_divisor []) (c_has : Cal κ P w K mg base "has" 1 2 F_has []) (c_is_word : Cal κ P w K mg base "is_word" 2 1 F_is_word []) (c_meeting_length : Cal κ P w K mg base "meeting_length" 4 2 F_meeting_length []) {F : FC} (hF : ∀ ds n Q, F ds n Q → ds.length = 3 → rd_is_two_period_word F_divisor F_has F_is_word F_meeting_length { nx := fun _ m => Q (.val .non) m, rt := Q } (startE 3 ds) n) (hk : κ.K = K) : FnOk P w K mg base CX0 (4 + 1) T.a_is_two_period_word T.d_is_two_period_word ["one", "other", "value"] (spD κ 3 F) := by
  subst hk
  refine fn_dl T.f_is_two_period_word sc_is_two_period_word (fun cdv A outer s H E hr => ?_) hF
  exact (ds_cons (S_tup (dxs_cons (dx_v (e_sub (DX.de (dx_call c_meeting_length hr (da_cons (v 0) (da_cons (v 1) da_nil)))) de_int)) (dxs_cons (dx_v (DX.de (dx_call c_divisor hr (da_cons (v 0) (da_cons (v 1) da_nil))))) dxs_nil)) (X_n 3 sc_is_two_period_word.nd (X_n 4 sc_is_two_period_word.nd names_nil))) (ds_cons (d1_if (DW.dt (dw_or (dt_not (dt_tru (DX.de (dx_call c_is_word hr (da_cons (v 2) da_nil))))) (dw_or (t_ne hr (e_len T.g_len (v 2)) (v 3)) (dw_or (t_ge (v 4) (v 3)) (dw_or1 (dt_tru (DX.de (dx_call c_has hr (da_cons (v 2) (da_cons (v 4) da_nil)))))))))) (ds_one (d1_ret de_bl)) ds_nil) (ds_one (d1_ret (e_all T.g_all (DO.fr (o_comp [("period", 5)] sc_is_two_period_word.nd (i_seq (de_tup (da_cons (v 0) (da_cons (v 1) da_nil)))) (fun _ _ _ _ _ => (G_n 5 sc_is_two_period_word.nd)) (fun _ _ _ _ _ => dts_nil) (fun _ _ _ _ _ => (de_or (e_ge (v 5) (v 3)) (de_one (DX.de (dx_call c_has hr (da_cons (v 2) (da_cons (v 5) da_nil))))))))))))))
theorem cal_is_two_period_word {k : Nat} {F : FC} (T : Top K mg) (h : FnOk P w K mg base CX0 k T.a_is_two_period_word T.d_is_two_period_word ["one", "other", "value"] (spD κ 3 F)) : Cal κ P w K mg base "is_two_period_word" k 3 F [] := ⟨_, _, _, [], [], h, T.m_is_two_period_word, T.f_is_two_period_word.kp, b_is_two_period_word T, .nil, fun _ _ => .nil⟩
theorem ok_rows_of (T : Top K mg) {F : FC} (hF : ∀ ds n Q, F ds n Q → ds.length = 2 → rd_rows_of { nx := fun _ m => Q (.val .non) m, rt := Q } (startE 4 ds) n) (hk : κ.K = K) : FnOk P w K mg base CX0 (0 + 1) T.a_rows_of T.d_rows_of ["text", "period"] (spD κ 2 F) := by
  subst hk
  refine fn_dl T.f_rows_of sc_rows_of (fun cdv A outer s H E hr => ?_) hF
  exact (ds_cons (S_par 2 3 sc_rows_of.nd (dxs_cons (dx_o (do_lst da_nil)) (dxs_cons (dx_v de_non) dxs_nil))) (ds_cons (S_for (i_r1 T.g_range (e_add (e_sub (e_len T.g_len (v 0)) (v 1)) de_int)) (N_n 4 sc_rows_of.nd) (ds_cons (S_asg 5 sc_rows_of.nd (de_and (e_lt (e_add (v 4) (v 1)) (e_len T.g_len (v 0))) (de_one (e_eq hr (e_ix hr (v 0) (v 4)) (e_ix hr (v 0) (e_add (v 4) (v 1))))))) (ds_cons (d1_if (DW.dt (dw_and (dt_tru (v 5)) (dw_and1 (t_isN (v 3) de_non)))) (ds_one (S_asg 3 sc_rows_of.nd (v 4))) ds_nil) (ds_one (d1_if (DW.dt (dw_and (dt_not (dt_tru (v 5))) (dw_and1 (t_notN (v 3) de_non)))) (ds_cons (S_app 2 (de_tup (da_cons (v 3) (da_cons (e_sub (e_add (v 4) (v 1)) de_int) da_nil)))) (ds_one (S_asg 3 sc_rows_of.nd de_non))) ds_nil))))) (ds_one (S_retS 2))))
theorem cal_rows_of {k : Nat} {F : FC} (T : Top K mg) (h : FnOk P w K mg base CX0 k T.a_rows_of T.d_rows_of ["text", "period"] (spD κ 2 F)) : Cal κ P w K mg base "rows_of" k 2 F [] := ⟨_, _, _, [], [], h, T.m_rows_of, T.f_rows_of.kp, b_rows_of T, .nil, fun _ _ => .nil⟩
theorem ok_stretches_in (T : Top K mg) {F_rows_of : FC} (c_rows_of : Cal κ P w K mg base "rows_of" 1 2 F_rows_of []) {F : FC} (hF : ∀ ds n Q, F ds n Q → ds.length = 3 → rd_stretches_in F_rows_of { nx := fun _ m => Q (.val .non) m, rt := Q } (startE 7 ds) n) (hk : κ.K = K) : FnOk P w K mg base CX0 (1 + 1) T.a_stretches_in T.d_stretches_in ["text", "below", "least"] (spD κ 3 F) := by
  subst hk
  refine fn_dl T.f_stretches_in sc_stretches_in (fun cdv A outer s H E hr => ?_) hF
  exact (ds_cons (S_asgX 3 sc_stretches_in.nd dx_dctT) (ds_cons (S_for (i_r3 T.g_range (e_sub (e_min T.g_min (da_cons (v 1) (da_cons (e_len T.g_len (v 0)) da_nil))) de_int) de_int (de_neg de_int)) (N_n 4 sc_stretches_in.nd) (ds_one (S_for (i_seq (DX.de (dx_call c_rows_of hr (da_cons (v 0) (da_cons (v 4) da_nil))))) (N_t (sds_cons (N_n 6 sc_stretches_in.nd) (sds_cons (N_n 7 sc_stretches_in.nd) sds_nil))) (ds_one (d1_if (t_ge (e_add (e_sub (v 7) (v 6)) de_int) (v 2)) (ds_one (S_setT 3 hr (v 4) (de_tup (da_cons (v 6) (da_cons (v 7) da_nil))))) ds_nil))))) (ds_cons (d1_frzT 3 (S_asg 5 sc_stretches_in.nd (DO.fr (o_comp2K 3 [("one", 8), ("late", 9)] [9] sc_stretches_in.nd dk_name (fun _ _ _ _ _ => (G_n 8 sc_stretches_in.nd)) (fun _ _ _ _ _ => dts_nil) (fun _ _ _ _ _ => dk_name) (fun _ _ _ _ _ => (G_n 9 sc_stretches_in.nd)) (fun _ _ _ _ _ => (dts_one (DW.dt (dw_and (t_ne hr (v 9) (v 8)) (dw_and (t_le (e_ix hr (v 9) de_int) (e_ix hr (v 8) de_int)) (dw_and1 (t_le (e_ix hr (v 8) de_int) (e_ix hr (v 9) de_int)))))))) (fun _ _ _ _ _ => (v 8)))))) (ds_one (d1_retO (o_sortedC T.g_sorted (DO.fr (o_comp [("one", 8)] sc_stretches_in.nd (i_name 3) (fun _ _ _ _ _ => (G_n 8 sc_stretches_in.nd)) (fun _ _ _ _ _ => (dts_one (t_notInP hr (v 8) (v 5)))) (fun _ _ _ _ _ => (de_tup (da_star (v 8) (da_cons (e_ix hr (v 3) (v 8)) da_nil))))))))))))
theorem cal_stretches_in {k : Nat} {F : FC} (T : Top K mg) (h : FnOk P w K mg base CX0 k T.a_stretches_in T.d_stretches_in ["text", "below", "least"] (spD κ 3 F)) : Cal κ P w K mg base "stretches_in" k 3 F [] := ⟨_, _, _, [], [], h, T.m_stretches_in, T.f_stretches_in.kp, b_stretches_in T, .nil, fun _ _ => .nil⟩
theorem ok_stretches (T : Top K mg) {F_check_from : FC} {F_check_text : FC} {F_stretches_in : FC} (c_check_from : Cal κ P w K mg base "check_from" 3 2 F_check_from []) (c_check_text : Cal κ P w K mg base "check_text" 2 1 F_check_text []) (c_stretches_in : Cal κ P w K mg base "stretches_in" 2 3 F_stretches_in []) {F : FC} (hF : ∀ ds n Q, F ds n Q → ds.length = 3 → rd_stretches F_check_from F_check_text F_stretches_in { nx := fun _ m => Q (.val .non) m, rt := Q } (startE 0 ds) n) (hk : κ.K = K) : FnOk P w K mg base CX0 (3 + 1) T.a_stretches T.d_stretches ["text", "below", "least"] (spD κ 3 F) := by
  subst hk
  refine fn_dl T.f_stretches sc_stretches (fun cdv A outer s H E hr => ?_) hF
  exact (ds_cons (d1_expr (DX.de (dx_call c_check_text hr (da_cons (v 0) da_nil)))) (ds_cons (d1_expr (DX.de (dx_call c_check_from hr (da_cons (v 1) (da_cons de_int da_nil))))) (ds_cons (d1_expr (DX.de (dx_call c_check_from hr (da_cons (v 2) (da_cons de_int da_nil))))) (ds_cons (d1_if (t_lt (v 2) (e_sub (e_mul de_int (v 1)) de_int)) (ds_one d1_never) ds_nil) (ds_one (d1_retO (DX.do (dx_call c_stretches_in hr (da_cons (v 0) (da_cons (v 1) (da_cons (v 2) da_nil)))))))))))
theorem cal_stretches {k : Nat} {F : FC} (T : Top K mg) (h : FnOk P w K mg base CX0 k T.a_stretches T.d_stretches ["text", "below", "least"] (spD κ 3 F)) : Cal κ P w K mg base "stretches" k 3 F [] := ⟨_, _, _, [], [], h, T.m_stretches, T.f_stretches.kp, b_stretches T, .nil, fun _ _ => .nil⟩
theorem ok__law_dice (T : Top K mg) {F : FC} (hF : ∀ ds n Q, F ds n Q → ds.length = 2 → rd__law_dice { nx := fun _ m => Q (.val .non) m, rt := Q } (startE 1 ds) n) (hk : κ.K = K) : FnOk P w K mg base CX0 (0 + 1) T.a__law_dice T.d__law_dice ["script", "at"] (spD κ 2 F) := by
  subst hk
  refine fn_dl T.f__law_dice sc__law_dice (fun cdv A outer s H E hr => ?_) hF
  exact (ds_cons (S_asg 2 sc__law_dice.nd (e_sum T.g_sum (e_sl (v 0) (dp_some (v 1)) (dp_some (e_add (v 1) de_int))))) (ds_one (d1_retO (do_lst (da_cons (e_mod (e_int T.g_int (e_max T.g_max (da_cons (e_sub (v 2) (e_pow de_int de_int)) (da_cons de_int da_nil)))) (e_pow (e_pow de_int de_int) de_int)) (da_cons (e_mod (e_int T.g_int (v 2)) de_int) (da_cons de_int (da_cons (v 1) da_nil))))))))
theorem cal__law_dice {k : Nat} {F : FC} (T : Top K mg) (h : FnOk P w K mg base CX0 k T.a__law_dice T.d__law_dice ["script", "at"] (spD κ 2 F)) : Cal κ P w K mg base "_law_dice" k 2 F [] := ⟨_, _, _, [], [], h, T.m__law_dice, T.f__law_dice.kp, b__law_dice T, .nil, fun _ _ => .nil⟩
theorem ok__law_mixed (T : Top K mg) {F : FC} (hF : ∀ ds n Q, F ds n Q → ds.length = 3 → rd__law_mixed { nx := fun _ m => Q (.val .non) m, rt := Q } (startE 1 ds) n) (hk : κ.K = K) : FnOk P w K mg base CX0 (0 + 1) T.a__law_mixed T.d__law_mixed ["seed", "spin", "at"] (spD κ 3 F) := by
  subst hk
  refine fn_dl T.f__law_mixed sc__law_mixed (fun cdv A outer s H E hr => ?_) hF
  exact (ds_cons (S_asg 3 sc__law_mixed.nd (e_add (e_mul (v 0) de_int) (e_mul (e_mul de_int (v 1)) (v 1)))) (ds_cons (S_asg 3 sc__law_mixed.nd (e_mod (e_int T.g_int (e_add (e_add (v 3) (e_mul de_int (v 2))) (v 1))) de_int)) (ds_cons (S_asg 3 sc__law_mixed.nd (e_mod (e_int T.g_int (e_add (e_mul (v 3) (v 3)) de_int)) de_int)) (ds_one (d1_ret (e_mod (e_int T.g_int (e_mul (v 3) de_int)) de_int))))))
theorem cal__law_mixed {k : Nat} {F : FC} (T : Top K mg) (h : FnOk P w K mg base CX0 k T.a__law_mixed T.d__law_mixed ["seed", "spin", "at"] (spD κ 3 F)) : Cal κ P w K mg base "_law_mixed" k 3 F [] := ⟨_, _, _, [], [], h, T.m__law_mixed, T.f__law_mixed.kp, b__law_mixed T, .nil, fun _ _ => .nil⟩
theorem ok__law_draw (T : Top K mg) {F__law_mixed : FC} (c__law_mixed : Cal κ P w K mg base "_law_mixed" 1 3 F__law_mixed []) (hK : HasDice κ) {F : FC} (hF : ∀ ds n Q, F ds n Q → ds.length = 2 → rd__law_draw F__law_mixed { nx := fun _ m => Q (.val .non) m, rt := Q } (startE 3 ds) n) (hk : κ.K = K) : FnOk P w K mg base CX0 (1 + 1) T.a__law_draw T.d__law_draw ["dice", "many"] (spD κ 2 F) := by
  subst hk
  refine fn_dl T.f__law_draw sc__law_draw (fun cdv A outer s H E hr => ?_) hF
  exact (ds_cons (d1_if (t_gt (e_ixB 0 0 hK ⟨_, _, rfl⟩) de_int) (ds_cons (S_asg 4 sc__law_draw.nd (e_mod (e_int T.g_int (e_ixB 0 0 hK ⟨_, _, rfl⟩)) (v 1))) (ds_cons (S_setB 0 0 hK (e_div (e_ixB 0 0 hK ⟨_, _, rfl⟩) (v 1)) ⟨_, _, rfl⟩) (ds_one (d1_ret (v 4))))) ds_nil) (ds_cons (S_asg 2 sc__law_draw.nd de_int) (ds_cons (S_for (i_r1 T.g_range (e_add de_int (e_div (de_bits (v 1)) de_int))) (N_n 3 sc__law_draw.nd) (ds_cons (S_setB 0 2 hK (e_add (e_ixB 0 2 hK ⟨_, _, rfl⟩) de_int) ⟨_, _, rfl⟩) (ds_one (S_asg 2 sc__law_draw.nd (e_add (e_mul (v 2) de_int) (DX.de (dx_call c__law_mixed hr (da_cons (e_ixB 0 1 hK ⟨_, _, rfl⟩) (da_cons (e_ixB 0 2 hK ⟨_, _, rfl⟩) (da_cons (e_ixB 0 3 hK ⟨_, _, rfl⟩) da_nil)))))))))) (ds_one (d1_ret (e_mod (e_int T.g_int (v 2)) (v 1)))))))
theorem cal__law_draw {k : Nat} {F : FC} (T : Top K mg) (h : FnOk P w K mg base CX0 k T.a__law_draw T.d__law_draw ["dice", "many"] (spD κ 2 F)) : Cal κ P w K mg base "_law_draw" k 2 F [] := ⟨_, _, _, [], [], h, T.m__law_draw, T.f__law_draw.kp, b__law_draw T, .nil, fun _ _ => .nil⟩
theorem ok__law_one_of (T : Top K mg) {F__law_draw : FC} (c__law_draw : Cal κ P w K mg base "_law_draw" 2 2 F__law_draw []) {F : FC} (hF : ∀ ds n Q, F ds n Q → ds.length = 2 → rd__law_one_of F__law_draw { nx := fun _ m => Q (.val .non) m, rt := Q } (startE 0 ds) n) (hk : κ.K = K) : FnOk P w K mg base CX0 (2 + 1) T.a__law_one_of T.d__law_one_of ["dice", "some"] (spD κ 2 F) := by
  subst hk
  refine fn_dl T.f__law_one_of sc__law_one_of (fun cdv A outer s H E hr => ?_) hF
  exact (ds_one (d1_ret (e_ix hr (v 1) (DX.de (dx_call c__law_draw hr (da_cons (v 0) (da_cons (e_len T.g_len (v 1)) da_nil)))))))
theorem cal__law_one_of {k : Nat} {F : FC} (T : Top K mg) (h : FnOk P w K mg base CX0 k T.a__law_one_of T.d__law_one_of ["dice", "some"] (spD κ 2 F)) : Cal κ P w K mg base "_law_one_of" k 2 F [] := ⟨_, _, _, [], [], h, T.m__law_one_of, T.f__law_one_of.kp, b__law_one_of T, .nil, fun _ _ => .nil⟩
theorem ok__law_exact (T : Top K mg) {lv : Nat} (hlv : 0 ≤ lv) {F__law_exact : FC} (c__law_exact : Cal κ P w K mg base "_law_exact" lv 2 F__law_exact []) {F : FC} (hF : ∀ ds n Q, F ds n Q → ds.length = 2 → rd__law_exact F__law_exact { nx := fun _ m => Q (.val .non) m, rt := Q } (startE 4 ds) n) (hk : κ.K = K) : FnOk P w K mg base CX0 (lv + 1) T.a__law_exact T.d__law_exact ["mine", "theirs"] (spD κ 2 F) := by
  subst hk
  refine fn_dl T.f__law_exact sc__law_exact (fun cdv A outer s H E hr => ?_) hF
  exact (ds_cons (d1_if (dt_val (e_isiT T.g_isinstance (v 0) (ty_cons .list T.g_list (ty_cons .tuple T.g_tuple dtys_nil)))) (ds_cons (S_asg 2 sc__law_exact.nd (de_and (e_eq hr (e_isi .list T.g_isinstance T.g_list (v 1)) (e_isi .list T.g_isinstance T.g_list (v 0))) (de_one (e_eq hr (e_isi .tuple T.g_isinstance T.g_tuple (v 1)) (e_isi .tuple T.g_isinstance T.g_tuple (v 0)))))) (ds_one (d1_ret (de_and (v 2) (de_and (e_eq hr (e_len T.g_len (v 0)) (e_len T.g_len (v 1))) (de_one (e_all T.g_all (DO.fr (o_comp [("a", 3), ("b", 4)] sc__law_exact.nd (i_zip T.g_zip (v 0) (v 1)) (fun _ _ _ _ _ => (G_t (dgs_cons (G_n 3 sc__law_exact.nd) (dgs_cons (G_n 4 sc__law_exact.nd) dgs_nil)))) (fun _ _ _ _ _ => dts_nil) (fun _ _ _ _ _ => (DX.de (dx_call c__law_exact hr (da_cons (v 3) (da_cons (v 4) da_nil)))))))))))))) ds_nil) (ds_cons (d1_if (dt_val (e_isi .dict T.g_isinstance T.g_dict (v 0))) (ds_cons (S_asg 2 sc__law_exact.nd (de_and (e_isi .dict T.g_isinstance T.g_dict (v 1)) (de_one (DX.de (dx_call c__law_exact hr (da_cons (DO.fr (o_list T.g_list (v 0))) (da_cons (DO.fr (o_list T.g_list (v 1))) da_nil))))))) (ds_one (d1_ret (de_and (v 2) (de_one (e_all T.g_all (DO.fr (o_comp [("key", 5)] sc__law_exact.nd (i_name 0) (fun _ _ _ _ _ => (G_n 5 sc__law_exact.nd)) (fun _ _ _ _ _ => dts_nil) (fun _ _ _ _ _ => (DX.de (dx_call c__law_exact hr (da_cons (e_ix hr (v 0) (v 5)) (da_cons (e_ix hr (v 1) (v 5)) da_nil))))))))))))) ds_nil) (ds_cons (d1_if (DW.dt (dw_or (dt_val (e_isiT T.g_isinstance (v 1) (ty_cons .list T.g_list (ty_cons .tuple T.g_tuple (ty_cons .dict T.g_dict dtys_nil))))) (dw_or1 (t_ne hr (e_isN (v 0) de_non) (e_isN (v 1) de_non))))) (ds_one (d1_ret de_bl)) ds_nil) (ds_cons (S_asg 2 sc__law_exact.nd (de_and (e_eq hr (e_isi .int T.g_isinstance T.g_int (v 0)) (e_isi .int T.g_isinstance T.g_int (v 1))) (de_one (e_eq hr (e_isi .str T.g_isinstance T.g_str (v 0)) (e_isi .str T.g_isinstance T.g_str (v 1)))))) (ds_one (d1_ret (de_and (v 2) (de_and (e_eq hr (e_isi .bool T.g_isinstance T.g_bool (v 0)) (e_isi .bool T.g_isinstance T.g_bool (v 1))) (de_one (e_eq hr (v 0) (v 1)))))))))))
theorem cal__law_exact {k : Nat} {F : FC} (T : Top K mg) (h : FnOk P w K mg base CX0 k T.a__law_exact T.d__law_exact ["mine", "theirs"] (spD κ 2 F)) : Cal κ P w K mg base "_law_exact" k 2 F [] := ⟨_, _, _, [], [], h, T.m__law_exact, T.f__law_exact.kp, b__law_exact T, .nil, fun _ _ => .nil⟩
theorem ok__law_dices (T : Top K mg) {F__law_dice : FC} (c__law_dice : Cal κ P w K mg base "_law_dice" 1 2 F__law_dice []) {F : FC} (hF : ∀ ds n Q, F ds n Q → ds.length = 2 → rd__law_dices F__law_dice { nx := fun _ m => Q (.val .non) m, rt := Q } (startE 1 ds) n) (hk : κ.K = K) : FnOk P w K mg base CX0 (1 + 1) T.a__law_dices T.d__law_dices ["script", "few"] (spD κ 2 F) := by
  subst hk
  refine fn_dl T.f__law_dices sc__law_dices (fun cdv A outer s H E hr => ?_) hF
  exact (ds_one (d1_retO (o_comp [("at", 2)] sc__law_dices.nd (i_r1 T.g_range (e_max T.g_max (da_cons de_int (da_cons (e_min T.g_min (da_cons (v 1) (da_cons (e_len T.g_len (v 0)) da_nil))) da_nil)))) (fun _ _ _ _ _ => (G_n 2 sc__law_dices.nd)) (fun _ _ _ _ _ => dts_nil) (fun _ _ _ _ _ => (DX.de (dx_call c__law_dice hr (da_cons (v 0) (da_cons (v 2) da_nil))))))))
theorem cal__law_dices {k : Nat} {F : FC} (T : Top K mg) (h : FnOk P w K mg base CX0 k T.a__law_dices T.d__law_dices ["script", "few"] (spD κ 2 F)) : Cal κ P w K mg base "_law_dices" k 2 F [] := ⟨_, _, _, [], [], h, T.m__law_dices, T.f__law_dices.kp, b__law_dices T, .nil, fun _ _ => .nil⟩
theorem ok__law_letters (T : Top K mg) {F__law_draw : FC} (c__law_draw : Cal κ P w K mg base "_law_draw" 2 2 F__law_draw []) {F : FC} (hF : ∀ ds n Q, F ds n Q → ds.length = 2 → rd__law_letters F__law_draw { nx := fun _ m => Q (.val .non) m, rt := Q } (startE 4 ds) n) (hk : κ.K = K) : FnOk P w K mg base CX0 (2 + 1) T.a__law_letters T.d__law_letters ["dice", "many"] (spD κ 2 F) := by
  subst hk
  refine fn_dl T.f__law_letters sc__law_letters (fun cdv A outer s H E hr => ?_) hF
  exact (ds_cons (S_asgO 2 sc__law_letters.nd (do_lst da_nil)) (ds_cons (S_for (i_r1 T.g_range (v 1)) (N_n 3 sc__law_letters.nd) (ds_cons (S_asg 4 sc__law_letters.nd (e_ix hr (c_str [97, 98, 99, 100, 101, 102, 103, 104, 105, 106, 107, 108, 109, 110, 111, 112, 113, 114, 115, 116, 117, 118, 119, 120, 121, 122]) (DX.de (dx_call c__law_draw hr (da_cons (v 0) (da_cons de_int da_nil)))))) (ds_one (S_appV 2 (de_if (t_notIn hr (v 4) (v 2)) (v 4) (e_ix hr (DO.fr (o_comp [("sign", 5)] sc__law_letters.nd (i_seq (DO.fr (o_list T.g_list (c_str [97, 98, 99, 100, 101, 102, 103, 104, 105, 106, 107, 108, 109, 110, 111, 112, 113, 114, 115, 116, 117, 118, 119, 120, 121, 122])))) (fun _ _ _ _ _ => (G_n 5 sc__law_letters.nd)) (fun _ _ _ _ _ => (dts_one (t_notIn hr (v 5) (v 2)))) (fun _ _ _ _ _ => (v 5)))) de_int)))))) (ds_one (d1_retV (de_join (c_str []) (DO.fr (o_sorted T.g_sorted (v 2))))))))
theorem cal__law_letters {k : Nat} {F : FC} (T : Top K mg) (h : FnOk P w K mg base CX0 k T.a__law_letters T.d__law_letters ["dice", "many"] (spD κ 2 F)) : Cal κ P w K mg base "_law_letters" k 2 F [] := ⟨_, _, _, [], [], h, T.m__law_letters, T.f__law_letters.kp, b__law_letters T, .nil, fun _ _ => .nil⟩
theorem ok__law_ground (T : Top K mg) {F__law_draw : FC} {F__law_letters : FC} {F__law_one_of : FC} (c__law_draw : Cal κ P w K mg base "_law_draw" 2 2 F__law_draw []) (c__law_letters : Cal κ P w K mg base "_law_letters" 3 2 F__law_letters []) (c__law_one_of : Cal κ P w K mg base "_law_one_of" 3 2 F__law_one_of []) {F : FC} (hF : ∀ ds n Q, F ds n Q → ds.length = 2 → rd__law_ground F__law_draw F__law_letters F__law_one_of { nx := fun _ m => Q (.val .non) m, rt := Q } (startE 5 ds) n) (hk : κ.K = K) : FnOk P w K mg base CX0 (3 + 1) T.a__law_ground T.d__law_ground ["dice", "most"] (spD κ 2 F) := by
  subst hk
  refine fn_dl T.f__law_ground sc__law_ground (fun cdv A outer s H E hr => ?_) hF
  exact (ds_cons (S_asg 2 sc__law_ground.nd (DO.fr (do_lst (da_cons (de_tup (da_cons de_int (da_cons de_int da_nil))) (da_cons (de_tup (da_cons de_int (da_cons de_int da_nil))) (da_cons (de_tup (da_cons de_int (da_cons de_int da_nil))) (da_cons (de_tup (da_cons de_int (da_cons de_int da_nil))) (da_cons (de_tup (da_cons de_int (da_cons de_int da_nil))) (da_cons (de_tup (da_cons de_int (da_cons de_int da_nil))) (da_cons (de_tup (da_cons de_int (da_cons de_int da_nil))) da_nil)))))))))) (ds_cons (S_asg 3 sc__law_ground.nd (DO.fr (do_lst (da_cons de_int (da_cons de_int (da_cons de_int (da_cons de_int (da_cons de_int (da_cons de_int (da_cons de_int da_nil)))))))))) (ds_cons (d1_unp (DX.de (dx_call c__law_one_of hr (da_cons (v 0) (da_cons (DO.fr (o_comp [("at", 6)] sc__law_ground.nd (i_r1 T.g_range de_int) (fun _ _ _ _ _ => (G_n 6 sc__law_ground.nd)) (fun _ _ _ _ _ => (dts_one (t_le (e_ix hr (v 3) (v 6)) (v 1)))) (fun _ _ _ _ _ => (e_ix hr (v 2) (v 6))))) da_nil)))) (N_t (sds_cons (N_n 4 sc__law_ground.nd) (sds_cons (N_n 5 sc__law_ground.nd) sds_nil)))) (ds_one (d1_ret (de_tup (da_cons (de_if (t_eq hr (DX.de (dx_call c__law_draw hr (da_cons (v 0) (da_cons de_int da_nil)))) de_int) (DX.de (dx_call c__law_letters hr (da_cons (v 0) (da_cons (v 4) da_nil)))) (e_sl (c_str [97, 98, 99, 100, 101, 102, 103, 104]) dp_none (dp_some (v 4)))) (da_cons (v 5) da_nil))))))))
theorem cal__law_ground {k : Nat} {F : FC} (T : Top K mg) (h : FnOk P w K mg base CX0 k T.a__law_ground T.d__law_ground ["dice", "most"] (spD κ 2 F)) : Cal κ P w K mg base "_law_ground" k 2 F [] := ⟨_, _, _, [], [], h, T.m__law_ground, T.f__law_ground.kp, b__law_ground T, .nil, fun _ _ => .nil⟩
theorem ok__law_words_of (T : Top K mg) {F : FC} (hF : ∀ ds n Q, F ds n Q → ds.length = 2 → rd__law_words_of { nx := fun _ m => Q (.val .non) m, rt := Q } (startE 5 ds) n) (hk : κ.K = K) : FnOk P w K mg base CX0 (0 + 1) T.a__law_words_of T.d__law_words_of ["signs", "size"] (spD κ 2 F) := by
  subst hk
  refine fn_dl T.f__law_words_of sc__law_words_of (fun cdv A outer s H E hr => ?_) hF
  exact (ds_cons (S_asg 2 sc__law_words_of.nd (DO.fr (do_lst (da_cons (c_str []) da_nil)))) (ds_cons (S_for (i_r1 T.g_range (v 1)) (N_n 3 sc__law_words_of.nd) (ds_cons (S_asg 4 sc__law_words_of.nd (DO.fr (do_lst da_nil))) (ds_cons (S_for (i_name 2) (N_n 5 sc__law_words_of.nd) (ds_one (S_asg 4 sc__law_words_of.nd (e_add (v 4) (DO.fr (o_comp [("sign", 6)] sc__law_words_of.nd (i_seq (DO.fr (o_list T.g_list (v 0)))) (fun _ _ _ _ _ => (G_n 6 sc__law_words_of.nd)) (fun _ _ _ _ _ => dts_nil) (fun _ _ _ _ _ => (e_add (v 5) (v 6))))))))) (ds_one (S_asg 2 sc__law_words_of.nd (v 4)))))) (ds_one (d1_ret (v 2)))))
theorem cal__law_words_of {k : Nat} {F : FC} (T : Top K mg) (h : FnOk P w K mg base CX0 k T.a__law_words_of T.d__law_words_of ["signs", "size"] (spD κ 2 F)) : Cal κ P w K mg base "_law_words_of" k 2 F [] := ⟨_, _, _, [], [], h, T.m__law_words_of, T.f__law_words_of.kp, b__law_words_of T, .nil, fun _ _ => .nil⟩
theorem ok__law_text (T : Top K mg) {F__law_draw : FC} {F__law_one_of : FC} (c__law_draw : Cal κ P w K mg base "_law_draw" 2 2 F__law_draw []) (c__law_one_of : Cal κ P w K mg base "_law_one_of" 3 2 F__law_one_of []) {F : FC} (hF : ∀ ds n Q, F ds n Q → ds.length = 3 → rd__law_text F__law_draw F__law_one_of { nx := fun _ m => Q (.val .non) m, rt := Q } (startE 6 ds) n) (hk : κ.K = K) : FnOk P w K mg base CX0 (3 + 1) T.a__law_text T.d__law_text ["dice", "ground", "most"] (spD κ 3 F) := by
  subst hk
  refine fn_dl T.f__law_text sc__law_text (fun cdv A outer s H E hr => ?_) hF
  exact (ds_cons (S_tup (dxs_cons (dx_v (DO.fr (o_list T.g_list (e_ix hr (v 1) de_int)))) (dxs_cons (dx_v (c_str [])) dxs_nil)) (X_n 3 sc__law_text.nd (X_n 4 sc__law_text.nd names_nil))) (ds_cons (S_asg 5 sc__law_text.nd (DX.de (dx_call c__law_draw hr (da_cons (v 0) (da_cons (e_add (v 2) de_int) da_nil))))) (ds_cons (S_while (t_lt (e_len T.g_len (v 4)) (v 5)) (ds_cons (S_asg 6 sc__law_text.nd (DX.de (dx_call c__law_draw hr (da_cons (v 0) (da_cons de_int da_nil))))) (ds_one (d1_if (t_eq hr (v 6) de_int) (ds_cons (S_asg 7 sc__law_text.nd (de_join (c_str []) (DO.fr (o_comp [("spin", 8)] sc__law_text.nd (i_r1 T.g_range (e_add de_int (DX.de (dx_call c__law_draw hr (da_cons (v 0) (da_cons (e_ix hr (v 1) de_int) da_nil)))))) (fun _ _ _ _ _ => (G_n 8 sc__law_text.nd)) (fun _ _ _ _ _ => dts_nil) (fun _ _ _ _ _ => (DX.de (dx_call c__law_one_of hr (da_cons (v 0) (da_cons (v 3) da_nil))))))))) (ds_one (S_asg 4 sc__law_text.nd (e_add (v 4) (e_mul (v 7) (e_add de_int (DX.de (dx_call c__law_draw hr (da_cons (v 0) (da_cons de_int da_nil)))))))))) (ds_one (d1_if (t_eq hr (v 6) de_int) (ds_one (S_asg 4 sc__law_text.nd (e_add (v 4) (e_mul (e_ix hr (v 3) de_int) (e_add de_int (DX.de (dx_call c__law_draw hr (da_cons (v 0) (da_cons de_int da_nil))))))))) (ds_one (S_asg 4 sc__law_text.nd (e_add (v 4) (de_join (c_str []) (DO.fr (o_comp [("spin", 8)] sc__law_text.nd (i_r1 T.g_range (e_add de_int (DX.de (dx_call c__law_draw hr (da_cons (v 0) (da_cons de_int da_nil)))))) (fun _ _ _ _ _ => (G_n 8 sc__law_text.nd)) (fun _ _ _ _ _ => dts_nil) (fun _ _ _ _ _ => (DX.de (dx_call c__law_one_of hr (da_cons (v 0) (da_cons (v 3) da_nil))))))))))))))))) (ds_one (d1_ret (e_sl (v 4) dp_none (dp_some (v 5))))))))
theorem cal__law_text {k : Nat} {F : FC} (T : Top K mg) (h : FnOk P w K mg base CX0 k T.a__law_text T.d__law_text ["dice", "ground", "most"] (spD κ 3 F)) : Cal κ P w K mg base "_law_text" k 3 F [] := ⟨_, _, _, [], [], h, T.m__law_text, T.f__law_text.kp, b__law_text T, .nil, fun _ _ => .nil⟩
theorem ok__law_divisor (T : Top K mg) {F : FC} (hF : ∀ ds n Q, F ds n Q → ds.length = 2 → rd__law_divisor { nx := fun _ m => Q (.val .non) m, rt := Q } (startE 1 ds) n) (hk : κ.K = K) : FnOk P w K mg base CX0 (0 + 1) T.a__law_divisor T.d__law_divisor ["one", "other"] (spD κ 2 F) := by
  subst hk
  refine fn_dl T.f__law_divisor sc__law_divisor (fun cdv A outer s H E hr => ?_) hF
  exact (ds_one (d1_ret (e_max T.g_max (da_cons (DO.fr (o_comp [("late", 2)] sc__law_divisor.nd (i_r2 T.g_range de_int (e_add (e_min T.g_min (da_cons (v 0) (da_cons (v 1) da_nil))) de_int)) (fun _ _ _ _ _ => (G_n 2 sc__law_divisor.nd)) (fun _ _ _ _ _ => (dts_one (DW.dt (dw_and (t_eq hr (e_mod (e_int T.g_int (v 0)) (v 2)) de_int) (dw_and1 (t_eq hr (e_mod (e_int T.g_int (v 1)) (v 2)) de_int)))))) (fun _ _ _ _ _ => (v 2)))) da_nil))))
theorem cal__law_divisor {k : Nat} {F : FC} (T : Top K mg) (h : FnOk P w K mg base CX0 k T.a__law_divisor T.d__law_divisor ["one", "other"] (spD κ 2 F)) : Cal κ P w K mg base "_law_divisor" k 2 F [] := ⟨_, _, _, [], [], h, T.m__law_divisor, T.f__law_divisor.kp, b__law_divisor T, .nil, fun _ _ => .nil⟩
theorem ok__law_has (T : Top K mg) {F : FC} (hF : ∀ ds n Q, F ds n Q → ds.length = 2 → rd__law_has { nx := fun _ m => Q (.val .non) m, rt := Q } (startE 0 ds) n) (hk : κ.K = K) : FnOk P w K mg base CX0 (0 + 1) T.a__law_has T.d__law_has ["word", "period"] (spD κ 2 F) := by
  subst hk
  refine fn_dl T.f__law_has sc__law_has (fun cdv A outer s H E hr => ?_) hF
  exact (ds_one (d1_ret (de_or (e_ge (v 1) (e_len T.g_len (v 0))) (de_one (e_eq hr (e_sl (v 0) (dp_some (v 1)) dp_none) (e_sl (v 0) dp_none (dp_some (e_sub (e_len T.g_len (v 0)) (v 1)))))))))
theorem cal__law_has {k : Nat} {F : FC} (T : Top K mg) (h : FnOk P w K mg base CX0 k T.a__law_has T.d__law_has ["word", "period"] (spD κ 2 F)) : Cal κ P w K mg base "_law_has" k 2 F [] := ⟨_, _, _, [], [], h, T.m__law_has, T.f__law_has.kp, b__law_has T, .nil, fun _ _ => .nil⟩
theorem ok__law_is_two (T : Top K mg) {F__law_divisor : FC} {F__law_has : FC} (c__law_divisor : Cal κ P w K mg base "_law_divisor" 1 2 F__law_divisor []) (c__law_has : Cal κ P w K mg base "_law_has" 1 2 F__law_has []) {F : FC} (hF : ∀ ds n Q, F ds n Q → ds.length = 3 → rd__law_is_two F__law_divisor F__law_has { nx := fun _ m => Q (.val .non) m, rt := Q } (startE 2 ds) n) (hk : κ.K = K) : FnOk P w K mg base CX0 (1 + 1) T.a__law_is_two T.d__law_is_two ["one", "other", "value"] (spD κ 3 F) := by
  subst hk
  refine fn_dl T.f__law_is_two sc__law_is_two (fun cdv A outer s H E hr => ?_) hF
  exact (ds_cons (S_asg 3 sc__law_is_two.nd (DX.de (dx_call c__law_divisor hr (da_cons (v 0) (da_cons (v 1) da_nil))))) (ds_cons (d1_if (DW.dt (dw_or (dt_not (dt_val (e_isi .str T.g_isinstance T.g_str (v 2)))) (dw_or (t_eq hr (v 2) (c_str [])) (dw_or1 (dt_not (dt_val (e_all T.g_all (DO.fr (o_comp [("sign", 4)] sc__law_is_two.nd (i_seq (DO.fr (o_list T.g_list (v 2)))) (fun _ _ _ _ _ => (G_n 4 sc__law_is_two.nd)) (fun _ _ _ _ _ => dts_nil) (fun _ _ _ _ _ => (e_in hr (v 4) (c_str [97, 98, 99, 100, 101, 102, 103, 104, 105, 106, 107, 108, 109, 110, 111, 112, 113, 114, 115, 116, 117, 118, 119, 120, 121, 122])))))))))))) (ds_one (d1_ret de_bl)) ds_nil) (ds_one (d1_ret (de_and (e_eq hr (e_len T.g_len (v 2)) (e_sub (e_sub (e_add (v 0) (v 1)) (v 3)) de_int)) (de_and (DX.de (dx_call c__law_has hr (da_cons (v 2) (da_cons (v 0) da_nil)))) (de_and (DX.de (dx_call c__law_has hr (da_cons (v 2) (da_cons (v 1) da_nil)))) (de_one (de_not (DX.de (dx_call c__law_has hr (da_cons (v 2) (da_cons (v 3) da_nil)))))))))))))
theorem cal__law_is_two {k : Nat} {F : FC} (T : Top K mg) (h : FnOk P w K mg base CX0 k T.a__law_is_two T.d__law_is_two ["one", "other", "value"] (spD κ 3 F)) : Cal κ P w K mg base "_law_is_two" k 3 F [] := ⟨_, _, _, [], [], h, T.m__law_is_two, T.f__law_is_two.kp, b__law_is_two T, .nil, fun _ _ => .nil⟩
theorem ok__law_pair_right (T : Top K mg) {F__law_divisor : FC} {F__law_draw : FC} {F__law_exact : FC} {F__law_is_two : FC} {F__law_one_of : FC} {F_is_two_period_word : FC} {F_meeting_length : FC} {F_two_period_word : FC} (c__law_divisor : Cal κ P w K mg base "_law_divisor" 1 2 F__law_divisor []) (c__law_draw : Cal κ P w K mg base "_law_draw" 2 2 F__law_draw []) (c__law_exact : Cal κ P w K mg base "_law_exact" 8 2 F__law_exact []) (c__law_is_two : Cal κ P w K mg base "_law_is_two" 2 3 F__law_is_two []) (c__law_one_of : Cal κ P w K mg base "_law_one_of" 3 2 F__law_one_of []) (c_is_two_period_word : Cal κ P w K mg base "is_two_period_word" 5 3 F_is_two_period_word []) (c_meeting_length : Cal κ P w K mg base "meeting_length" 4 2 F_meeting_length []) (c_two_period_word : Cal κ P w K mg base "two_period_word" 5 2 F_two_period_word []) {F : FC} (hF : ∀ ds n Q, F ds n Q → ds.length = 3 → rd__law_pair_right F__law_divisor F__law_draw F__law_exact F__law_is_two F__law_one_of F_is_two_period_word F_meeting_length F_two_period_word { nx := fun _ m => Q (.val .non) m, rt := Q } (startE 12 ds) n) (hk : κ.K = K) : FnOk P w K mg base CX0 (8 + 1) T.a__law_pair_right T.d__law_pair_right ["dice", "one", "other"] (spD κ 3 F) := by
  subst hk
  refine fn_dl T.f__law_pair_right sc__law_pair_right (fun cdv A outer s H E hr => ?_) hF
  exact (ds_cons (S_par 3 4 sc__law_pair_right.nd (dxs_cons (dx_v (DX.de (dx_call c__law_divisor hr (da_cons (v 1) (da_cons (v 2) da_nil))))) (dxs_cons (dx_v (DX.de (dx_call c_two_period_word hr (da_cons (v 1) (da_cons (v 2) da_nil))))) dxs_nil))) (ds_cons (d1_if (dt_not (dt_tru (DX.de (dx_call c__law_exact hr (da_cons (DO.fr (do_lst (da_cons (DX.de (dx_call c_meeting_length hr (da_cons (v 1) (da_cons (v 2) da_nil)))) (da_cons (e_isN (v 4) de_non) da_nil)))) (da_cons (DO.fr (do_lst (da_cons (e_sub (e_add (v 1) (v 2)) (v 3)) (da_cons (e_in hr (v 3) (de_tup (da_cons (v 1) (da_cons (v 2) da_nil)))) da_nil)))) da_nil)))))) (ds_one (d1_ret de_bl)) ds_nil) (ds_cons (d1_if (DW.dt (dw_and (t_notN (v 4) de_non) (dw_and1 (dt_not (dt_tru (DX.de (dx_call c__law_is_two hr (da_cons (v 1) (da_cons (v 2) (da_cons (v 4) da_nil)))))))))) (ds_one (d1_ret de_bl)) ds_nil) (ds_cons (S_asg 5 sc__law_pair_right.nd (de_if (t_notN (v 4) de_non) (v 4) (e_mul (c_str [97, 98]) de_int))) (ds_cons (S_asg 6 sc__law_pair_right.nd (DX.de (dx_call c__law_draw hr (da_cons (v 0) (da_cons (e_len T.g_len (v 5)) da_nil))))) (ds_cons (S_asgO 7 sc__law_pair_right.nd (do_lst (da_cons (v 5) (da_cons (e_rev (v 5)) (da_cons (e_add (v 5) (c_str [97])) (da_cons (e_sl (v 5) (dp_some de_int) dp_none) (da_cons (e_add (e_add (e_sl (v 5) dp_none (dp_some (v 6))) (c_str [99])) (e_sl (v 5) (dp_some (e_add (v 6) de_int)) dp_none)) (da_cons (e_upper (v 5)) (da_cons (DO.fr (o_list T.g_list (v 5))) (da_cons de_non (da_cons de_int (da_cons (c_str []) da_nil)))))))))))) (ds_cons (d1_frz 7 (S_asgO 7 sc__law_pair_right.nd (do_add (v 7) (DO.fr (do_lst (da_cons (de_tup (da_cons (v 5) da_nil)) (da_cons e_dct0 (da_cons (e_mul (c_str [97]) (e_sub (e_sub (e_add (v 1) (v 2)) (v 3)) de_int)) da_nil)))))))) (ds_cons (S_app 7 (de_join (c_str []) (DO.fr (o_comp [("sign", 13)] sc__law_pair_right.nd (i_seq (DO.fr (o_list T.g_list (v 5)))) (fun _ _ _ _ _ => (G_n 13 sc__law_pair_right.nd)) (fun _ _ _ _ _ => dts_nil) (fun _ _ _ _ _ => (e_ix hr (DO.fr (do_lst (da_cons (c_str [121]) (da_cons (c_str [120]) da_nil)))) (e_int T.g_int (e_eq hr (v 13) (c_str [97]))))))))) (ds_cons (S_app 7 (de_join (c_str []) (DO.fr (o_comp [("sign", 13)] sc__law_pair_right.nd (i_seq (DO.fr (o_list T.g_list (v 5)))) (fun _ _ _ _ _ => (G_n 13 sc__law_pair_right.nd)) (fun _ _ _ _ _ => dts_nil) (fun _ _ _ _ _ => (e_ix hr (DO.fr (do_lst (da_cons (c_str [49]) (da_cons (c_str [45]) da_nil)))) (e_int T.g_int (e_eq hr (v 13) (c_str [97]))))))))) (ds_cons (S_par 8 9 sc__law_pair_right.nd (dxs_cons (dx_v (e_sub (e_sub (e_add (v 1) (v 2)) (v 3)) de_int)) (dxs_cons (dx_v (e_min T.g_min (da_cons (v 1) (da_cons (v 2) da_nil)))) dxs_nil))) (ds_cons (S_par 10 11 sc__law_pair_right.nd (dxs_cons (dx_v (DX.de (dx_call c__law_draw hr (da_cons (v 0) (da_cons (v 9) da_nil))))) (dxs_cons (dx_v (e_sl (e_add (v 5) (e_mul (c_str [97, 98]) de_int)) dp_none (dp_some (v 9)))) dxs_nil))) (ds_cons (S_app 7 (e_sl (e_mul (e_add (e_add (e_sl (v 11) dp_none (dp_some (v 10))) (DX.de (dx_call c__law_one_of hr (da_cons (v 0) (da_cons (DO.fr (do_lst (da_cons (c_str [97]) (da_cons (c_str [98]) (da_cons (c_str [99]) da_nil))))) da_nil))))) (e_sl (v 11) (dp_some (e_add (v 10) de_int)) dp_none)) de_int) dp_none (dp_some (v 8)))) (ds_cons (S_app 7 (e_sl (e_mul (de_join (c_str []) (DO.fr (o_comp [("spin", 14)] sc__law_pair_right.nd (i_r1 T.g_range (v 3)) (fun _ _ _ _ _ => (G_n 14 sc__law_pair_right.nd)) (fun _ _ _ _ _ => dts_nil) (fun _ _ _ _ _ => (DX.de (dx_call c__law_one_of hr (da_cons (v 0) (da_cons (DO.fr (do_lst (da_cons (c_str [97]) (da_cons (c_str [98]) da_nil)))) da_nil)))))))) de_int) dp_none (dp_some (v 8)))) (ds_cons (d1_frz 7 (S_for (i_name 7) (N_n 12 sc__law_pair_right.nd) (ds_one (d1_if (dt_not (dt_tru (DX.de (dx_call c__law_exact hr (da_cons (DX.de (dx_call c_is_two_period_word hr (da_cons (v 1) (da_cons (v 2) (da_cons (v 12) da_nil))))) (da_cons (DX.de (dx_call c__law_is_two hr (da_cons (v 1) (da_cons (v 2) (da_cons (v 12) da_nil))))) da_nil)))))) (ds_one (d1_ret de_bl)) ds_nil)))) (ds_one (d1_ret de_bl))))))))))))))))
theorem cal__law_pair_right {k : Nat} {F : FC} (T : Top K mg) (h : FnOk P w K mg base CX0 k T.a__law_pair_right T.d__law_pair_right ["dice", "one", "other"] (spD κ 3 F)) : Cal κ P w K mg base "_law_pair_right" k 3 F [] := ⟨_, _, _, [], [], h, T.m__law_pair_right, T.f__law_pair_right.kp, b__law_pair_right T, .nil, fun _ _ => .nil⟩
theorem ok__law_far_pair_right (T : Top K mg) {F__law_divisor : FC} {F__law_exact : FC} {F__law_is_two : FC} {F_is_two_period_word : FC} {F_meeting_length : FC} {F_two_period_word : FC} (c__law_divisor : Cal κ P w K mg base "_law_divisor" 1 2 F__law_divisor []) (c__law_exact : Cal κ P w K mg base "_law_exact" 8 2 F__law_exact []) (c__law_is_two : Cal κ P w K mg base "_law_is_two" 2 3 F__law_is_two []) (c_is_two_period_word : Cal κ P w K mg base "is_two_period_word" 5 3 F_is_two_period_word []) (c_meeting_length : Cal κ P w K mg base "meeting_length" 4 2 F_meeting_length []) (c_two_period_word : Cal κ P w K mg base "two_period_word" 5 2 F_two_period_word []) {F : FC} (hF : ∀ ds n Q, F ds n Q → ds.length = 2 → rd__law_far_pair_right F__law_divisor F__law_exact F__law_is_two F_is_two_period_word F_meeting_length F_two_period_word { nx := fun _ m => Q (.val .non) m, rt := Q } (startE 4 ds) n) (hk : κ.K = K) : FnOk P w K mg base CX0 (8 + 1) T.a__law_far_pair_right T.d__law_far_pair_right ["one", "other"] (spD κ 2 F) := by
  subst hk
  refine fn_dl T.f__law_far_pair_right sc__law_far_pair_right (fun cdv A outer s H E hr => ?_) hF
  exact (ds_cons (S_par 2 3 sc__law_far_pair_right.nd (dxs_cons (dx_v (DX.de (dx_call c__law_divisor hr (da_cons (v 0) (da_cons (v 1) da_nil))))) (dxs_cons (dx_v (DX.de (dx_call c_two_period_word hr (da_cons (v 0) (da_cons (v 1) da_nil))))) dxs_nil))) (ds_cons (d1_if (dt_not (dt_tru (DX.de (dx_call c__law_exact hr (da_cons (DO.fr (do_lst (da_cons (DX.de (dx_call c_meeting_length hr (da_cons (v 0) (da_cons (v 1) da_nil)))) (da_cons (e_isN (v 3) de_non) da_nil)))) (da_cons (DO.fr (do_lst (da_cons (e_sub (e_add (v 0) (v 1)) (v 2)) (da_cons (e_in hr (v 2) (de_tup (da_cons (v 0) (da_cons (v 1) da_nil)))) da_nil)))) da_nil)))))) (ds_one (d1_ret de_bl)) ds_nil) (ds_cons (d1_if (t_isN (v 3) de_non) (ds_one (d1_ret (e_isB (DX.de (dx_call c_is_two_period_word hr (da_cons (v 0) (da_cons (v 1) (da_cons (c_str [97, 98]) da_nil))))) de_bl))) ds_nil) (ds_cons (d1_if (dt_not (dt_tru (DX.de (dx_call c__law_is_two hr (da_cons (v 0) (da_cons (v 1) (da_cons (v 3) da_nil))))))) (ds_one (d1_ret de_bl)) ds_nil) (ds_cons (S_lcF 4 [("value", 5)] sc__law_far_pair_right.nd (i_seq (de_tup (da_cons (e_sl (v 3) (dp_some de_int) dp_none) (da_cons (v 3) (da_cons (e_add (v 3) (e_sl (v 3) dp_none (dp_some de_int))) da_nil))))) (fun _ _ _ _ _ => (G_n 5 sc__law_far_pair_right.nd)) (fun _ _ _ _ _ => dts_nil) (fun _ _ _ _ _ => (DX.de (dx_call c_is_two_period_word hr (da_cons (v 0) (da_cons (v 1) (da_cons (v 5) da_nil))))))) (ds_one (d1_ret (DX.de (dx_call c__law_exact hr (da_cons (v 4) (da_cons (DO.fr (o_comp [("value", 5)] sc__law_far_pair_right.nd (i_seq (de_tup (da_cons (e_sl (v 3) (dp_some de_int) dp_none) (da_cons (v 3) (da_cons (e_add (v 3) (e_sl (v 3) dp_none (dp_some de_int))) da_nil))))) (fun _ _ _ _ _ => (G_n 5 sc__law_far_pair_right.nd)) (fun _ _ _ _ _ => dts_nil) (fun _ _ _ _ _ => (DX.de (dx_call c__law_is_two hr (da_cons (v 0) (da_cons (v 1) (da_cons (v 5) da_nil)))))))) da_nil)))))))))))
theorem cal__law_far_pair_right {k : Nat} {F : FC} (T : Top K mg) (h : FnOk P w K mg base CX0 k T.a__law_far_pair_right T.d__law_far_pair_right ["one", "other"] (spD κ 2 F)) : Cal κ P w K mg base "_law_far_pair_right" k 2 F [] := ⟨_, _, _, [], [], h, T.m__law_far_pair_right, T.f__law_far_pair_right.kp, b__law_far_pair_right T, .nil, fun _ _ => .nil⟩
theorem ok__law_words_meet (T : Top K mg) {F__law_divisor : FC} {F__law_has : FC} {F__law_words_of : FC} (c__law_divisor : Cal κ P w K mg base "_law_divisor" 1 2 F__law_divisor []) (c__law_has : Cal κ P w K mg base "_law_has" 1 2 F__law_has []) (c__law_words_of : Cal κ P w K mg base "_law_words_of" 1 2 F__law_words_of []) {F : FC} (hF : ∀ ds n Q, F ds n Q → ds.length = 2 → rd__law_words_meet F__law_divisor F__law_has F__law_words_of { nx := fun _ m => Q (.val .non) m, rt := Q } (startE 4 ds) n) (hk : κ.K = K) : FnOk P w K mg base CX0 (1 + 1) T.a__law_words_meet T.d__law_words_meet ["one", "other"] (spD κ 2 F) := by
  subst hk
  refine fn_dl T.f__law_words_meet sc__law_words_meet (fun cdv A outer s H E hr => ?_) hF
  exact (ds_cons (S_asg 2 sc__law_words_meet.nd (DX.de (dx_call c__law_divisor hr (da_cons (v 0) (da_cons (v 1) da_nil))))) (ds_cons (S_for (i_r2 T.g_range (e_add (e_max T.g_max (da_cons (v 0) (da_cons (v 1) da_nil))) de_int) (e_min T.g_min (da_cons (e_add (e_add (v 0) (v 1)) de_int) (da_cons de_int da_nil)))) (N_n 3 sc__law_words_meet.nd) (ds_cons (S_lcF 4 [("word", 5)] sc__law_words_meet.nd (i_seq (DX.de (dx_call c__law_words_of hr (da_cons (c_str [97, 98]) (da_cons (v 3) da_nil))))) (fun _ _ _ _ _ => (G_n 5 sc__law_words_meet.nd)) (fun _ _ _ _ _ => (dts_one (DW.dt (dw_and (dt_tru (DX.de (dx_call c__law_has hr (da_cons (v 5) (da_cons (v 0) da_nil))))) (dw_and1 (dt_tru (DX.de (dx_call c__law_has hr (da_cons (v 5) (da_cons (v 1) da_nil)))))))))) (fun _ _ _ _ _ => (v 5))) (ds_one (d1_if (DW.dt (dw_and (t_ge (v 3) (e_sub (e_add (v 0) (v 1)) (v 2))) (dw_and1 (dt_not (dt_val (e_all T.g_all (DO.fr (o_comp [("word", 5)] sc__law_words_meet.nd (i_name 4) (fun _ _ _ _ _ => (G_n 5 sc__law_words_meet.nd)) (fun _ _ _ _ _ => dts_nil) (fun _ _ _ _ _ => (DX.de (dx_call c__law_has hr (da_cons (v 5) (da_cons (v 2) da_nil))))))))))))) (ds_one (d1_ret de_bl)) ds_nil)))) (ds_one (d1_ret de_bl))))
theorem cal__law_words_meet {k : Nat} {F : FC} (T : Top K mg) (h : FnOk P w K mg base CX0 k T.a__law_words_meet T.d__law_words_meet ["one", "other"] (spD κ 2 F)) : Cal κ P w K mg base "_law_words_meet" k 2 F [] := ⟨_, _, _, [], [], h, T.m__law_words_meet, T.f__law_words_meet.kp, b__law_words_meet T, .nil, fun _ _ => .nil⟩
theorem ok__law_stretches (T : Top K mg) {F__law_has : FC} (c__law_has : Cal κ P w K mg base "_law_has" 1 2 F__law_has []) {F : FC} (hF : ∀ ds n Q, F ds n Q → ds.length = 3 → rd__law_stretches F__law_has { nx := fun _ m => Q (.val .non) m, rt := Q } (startE 6 ds) n) (hk : κ.K = K) : FnOk P w K mg base CX0 (1 + 1) T.a__law_stretches T.d__law_stretches ["text", "below", "least"] (spD κ 3 F) := by
  subst hk
  refine fn_dl T.f__law_stretches sc__law_stretches (fun cdv A outer s H E hr => ?_) hF
  exact (ds_cons (S_asgX 3 sc__law_stretches.nd dx_dctT) (ds_cons (S_for (i_r1 T.g_range (e_len T.g_len (v 0))) (N_n 4 sc__law_stretches.nd) (ds_one (S_for (i_r2 T.g_range (e_sub (e_add (v 4) (v 2)) de_int) (e_len T.g_len (v 0))) (N_n 6 sc__law_stretches.nd) (ds_cons (S_lcF 7 [("period", 8)] sc__law_stretches.nd (i_r2 T.g_range de_int (v 1)) (fun _ _ _ _ _ => (G_n 8 sc__law_stretches.nd)) (fun _ _ _ _ _ => (dts_one (DW.dt (dw_and (t_le (v 8) (e_sub (v 6) (v 4))) (dw_and1 (dt_tru (DX.de (dx_call c__law_has hr (da_cons (e_sl (v 0) (dp_some (v 4)) (dp_some (e_add (v 6) de_int))) (da_cons (v 8) da_nil)))))))))) (fun _ _ _ _ _ => (v 8))) (ds_one (d1_if (t_ne hr (v 7) (DO.fr (do_lst da_nil))) (ds_one (S_setT 3 hr (e_ix hr (v 7) de_int) (de_tup (da_cons (v 4) (da_cons (v 6) da_nil))))) ds_nil)))))) (ds_cons (d1_frzT 3 (S_asgO 5 sc__law_stretches.nd (do_lst da_nil))) (ds_cons (S_for (i_name 3) (N_t (sds_cons (N_n 4 sc__law_stretches.nd) (sds_cons (N_n 6 sc__law_stretches.nd) sds_nil))) (ds_one (d1_if (DW.dt (dw_and (dt_not (t_in hr (de_tup (da_cons (e_sub (v 4) de_int) (da_cons (v 6) da_nil))) (v 3))) (dw_and1 (dt_not (t_in hr (de_tup (da_cons (v 4) (da_cons (e_add (v 6) de_int) da_nil))) (v 3)))))) (ds_one (S_app 5 (de_tup (da_cons (v 4) (da_cons (v 6) (da_cons (e_ix hr (v 3) (de_tup (da_cons (v 4) (da_cons (v 6) da_nil)))) da_nil)))))) ds_nil))) (ds_one (d1_retOV (o_sortedC T.g_sorted (v 5))))))))
theorem cal__law_stretches {k : Nat} {F : FC} (T : Top K mg) (h : FnOk P w K mg base CX0 k T.a__law_stretches T.d__law_stretches ["text", "below", "least"] (spD κ 3 F)) : Cal κ P w K mg base "_law_stretches" k 3 F [] := ⟨_, _, _, [], [], h, T.m__law_stretches, T.f__law_stretches.kp, b__law_stretches T, .nil, fun _ _ => .nil⟩
theorem ok__law_text_right (T : Top K mg) {F__law_exact : FC} {F__law_stretches : FC} {F_stretches : FC} (c__law_exact : Cal κ P w K mg base "_law_exact" 8 2 F__law_exact []) (c__law_stretches : Cal κ P w K mg base "_law_stretches" 2 3 F__law_stretches []) (c_stretches : Cal κ P w K mg base "stretches" 4 3 F_stretches []) {F : FC} (hF : ∀ ds n Q, F ds n Q → ds.length = 3 → rd__law_text_right F__law_exact F__law_stretches F_stretches { nx := fun _ m => Q (.val .non) m, rt := Q } (startE 2 ds) n) (hk : κ.K = K) : FnOk P w K mg base CX0 (8 + 1) T.a__law_text_right T.d__law_text_right ["text", "below", "least"] (spD κ 3 F) := by
  subst hk
  refine fn_dl T.f__law_text_right sc__law_text_right (fun cdv A outer s H E hr => ?_) hF
  exact (ds_cons (S_par 3 4 sc__law_text_right.nd (dxs_cons (dx_v (DX.de (dx_call c__law_stretches hr (da_cons (v 0) (da_cons (v 1) (da_cons (v 2) da_nil)))))) (dxs_cons (dx_o (DX.do (dx_call c_stretches hr (da_cons (v 0) (da_cons (v 1) (da_cons (v 2) da_nil)))))) dxs_nil))) (ds_cons (d1_if (dt_not (dt_tru (DX.de (dx_call c__law_exact hr (da_cons (v 4) (da_cons (v 3) da_nil)))))) (ds_one (d1_ret de_bl)) ds_nil) (ds_cons (S_app 4 de_non) (ds_one (d1_ret (DX.de (dx_call c__law_exact hr (da_cons (DX.de (dx_call c_stretches hr (da_cons (v 0) (da_cons (v 1) (da_cons (v 2) da_nil))))) (da_cons (v 3) da_nil)))))))))
theorem cal__law_text_right {k : Nat} {F : FC} (T : Top K mg) (h : FnOk P w K mg base CX0 k T.a__law_text_right T.d__law_text_right ["text", "below", "least"] (spD κ 3 F)) : Cal κ P w K mg base "_law_text_right" k 3 F [] := ⟨_, _, _, [], [], h, T.m__law_text_right, T.f__law_text_right.kp, b__law_text_right T, .nil, fun _ _ => .nil⟩
theorem ok_law (T : Top K mg) {F__law_dices : FC} {F__law_draw : FC} {F__law_exact : FC} {F__law_far_pair_right : FC} {F__law_ground : FC} {F__law_one_of : FC} {F__law_pair_right : FC} {F__law_text : FC} {F__law_text_right : FC} {F__law_words_meet : FC} {F_meeting_length : FC} {F_stretches : FC} {F_two_period_word : FC} (c__law_dices : Cal κ P w K mg base "_law_dices" 2 2 F__law_dices []) (c__law_draw : Cal κ P w K mg base "_law_draw" 2 2 F__law_draw []) (c__law_exact : Cal κ P w K mg base "_law_exact" 8 2 F__law_exact []) (c__law_far_pair_right : Cal κ P w K mg base "_law_far_pair_right" 9 2 F__law_far_pair_right []) (c__law_ground : Cal κ P w K mg base "_law_ground" 4 2 F__law_ground []) (c__law_one_of : Cal κ P w K mg base "_law_one_of" 3 2 F__law_one_of []) (c__law_pair_right : Cal κ P w K mg base "_law_pair_right" 9 3 F__law_pair_right []) (c__law_text : Cal κ P w K mg base "_law_text" 4 3 F__law_text []) (c__law_text_right : Cal κ P w K mg base "_law_text_right" 9 3 F__law_text_right []) (c__law_words_meet : Cal κ P w K mg base "_law_words_meet" 2 2 F__law_words_meet []) (c_meeting_length : Cal κ P w K mg base "meeting_length" 4 2 F_meeting_length []) (c_stretches : Cal κ P w K mg base "stretches" 4 3 F_stretches []) (c_two_period_word : Cal κ P w K mg base "two_period_word" 5 2 F_two_period_word []) {F : FC} (hF : ∀ ds n Q, F ds n Q → ds.length = 1 → rd_law F__law_dices F__law_draw F__law_exact F__law_far_pair_right F__law_ground F__law_one_of F__law_pair_right F__law_text F__law_text_right F__law_words_meet F_meeting_length F_stretches F_two_period_word { nx := fun _ m => Q (.val .non) m, rt := Q } (startE 10 ds) n) (hk : κ.K = K) : FnOk P w K mg base CX0 (9 + 1) T.a_law T.d_law ["script"] (spD κ 1 F) := by
  subst hk
  refine fn_dl T.f_law sc_law (fun cdv A outer s H E hr => ?_) hF
  exact (ds_cons (S_for (i_seq (DX.de (dx_call c__law_dices hr (da_cons (v 0) (da_cons de_int da_nil))))) (N_n 1 sc_law.nd) (ds_cons (S_for (i_r1 T.g_range de_int) (N_n 3 sc_law.nd) (ds_cons (S_par 4 5 sc_law.nd (dxs_cons (dx_v (e_add de_int (DX.de (dx_call c__law_draw hr (da_cons (v 1) (da_cons de_int da_nil)))))) (dxs_cons (dx_v (e_add de_int (DX.de (dx_call c__law_draw hr (da_cons (v 1) (da_cons de_int da_nil)))))) dxs_nil))) (ds_one (d1_if (DW.dt (dw_or (dt_not (dt_tru (DX.de (dx_call c__law_pair_right hr (da_cons (v 1) (da_cons (v 4) (da_cons (v 5) da_nil))))))) (dw_or1 (dt_not (dt_tru (DX.de (dx_call c__law_pair_right hr (da_cons (v 1) (da_cons (v 5) (da_cons (v 4) da_nil)))))))))) (ds_one (d1_ret de_bl)) ds_nil)))) (ds_cons (S_par 4 5 sc_law.nd (dxs_cons (dx_v (e_add de_int (DX.de (dx_call c__law_draw hr (da_cons (v 1) (da_cons de_int da_nil)))))) (dxs_cons (dx_v (e_add de_int (DX.de (dx_call c__law_draw hr (da_cons (v 1) (da_cons de_int da_nil)))))) dxs_nil))) (ds_cons (d1_if (dt_not (dt_tru (DX.de (dx_call c__law_pair_right hr (da_cons (v 1) (da_cons (v 4) (da_cons (v 5) da_nil))))))) (ds_one (d1_ret de_bl)) ds_nil) (ds_cons (S_par 4 5 sc_law.nd (dxs_cons (dx_v (e_add de_int (DX.de (dx_call c__law_draw hr (da_cons (v 1) (da_cons de_int da_nil)))))) (dxs_cons (dx_v (e_add de_int (DX.de (dx_call c__law_draw hr (da_cons (v 1) (da_cons de_int da_nil)))))) dxs_nil))) (ds_cons (d1_if (DW.dt (dw_or (dt_not (dt_tru (DX.de (dx_call c__law_far_pair_right hr (da_cons (v 4) (da_cons (v 5) da_nil)))))) (dw_or1 (dt_not (dt_tru (DX.de (dx_call c__law_far_pair_right hr (da_cons (v 5) (da_cons (v 4) da_nil))))))))) (ds_one (d1_ret de_bl)) ds_nil) (ds_cons (d1_if (dt_not (dt_tru (DX.de (dx_call c__law_words_meet hr (da_cons (e_add de_int (DX.de (dx_call c__law_draw hr (da_cons (v 1) (da_cons de_int da_nil))))) (da_cons (e_add de_int (DX.de (dx_call c__law_draw hr (da_cons (v 1) (da_cons de_int da_nil))))) da_nil)))))) (ds_one (d1_ret de_bl)) ds_nil) (ds_cons (S_asg 6 sc_law.nd (DX.de (dx_call c__law_ground hr (da_cons (v 1) (da_cons de_int da_nil))))) (ds_one (S_for (i_r1 T.g_range de_int) (N_n 3 sc_law.nd) (ds_cons (S_asg 7 sc_law.nd (e_add de_int (DX.de (dx_call c__law_draw hr (da_cons (v 1) (da_cons de_int da_nil)))))) (ds_cons (S_asg 8 sc_law.nd (DX.de (dx_call c__law_text hr (da_cons (v 1) (da_cons (v 6) (da_cons de_int da_nil)))))) (ds_cons (d1_if (t_eq hr (DX.de (dx_call c__law_draw hr (da_cons (v 1) (da_cons de_int da_nil)))) de_int) (ds_cons (S_asg 9 sc_law.nd (de_join (c_str []) (DO.fr (o_comp [("late", 10)] sc_law.nd (i_r1 T.g_range (e_add de_int (DX.de (dx_call c__law_draw hr (da_cons (v 1) (da_cons de_int da_nil)))))) (fun _ _ _ _ _ => (G_n 10 sc_law.nd)) (fun _ _ _ _ _ => dts_nil) (fun _ _ _ _ _ => (DX.de (dx_call c__law_one_of hr (da_cons (v 1) (da_cons (DO.fr (o_list T.g_list (e_ix hr (v 6) de_int))) da_nil))))))))) (ds_one (S_par 8 7 sc_law.nd (dxs_cons (dx_v (e_add (e_mul (v 9) de_int) (e_sl (v 8) dp_none (dp_some de_int)))) (dxs_cons (dx_v (e_add de_int (DX.de (dx_call c__law_draw hr (da_cons (v 1) (da_cons de_int da_nil)))))) dxs_nil))))) ds_nil) (ds_one (d1_if (dt_not (dt_tru (DX.de (dx_call c__law_text_right hr (da_cons (v 8) (da_cons (v 7) (da_cons (e_add (e_max T.g_max (da_cons de_int (da_cons (e_sub (e_mul de_int (v 7)) de_int) da_nil))) (DX.de (dx_call c__law_draw hr (da_cons (v 1) (da_cons de_int da_nil))))) da_nil))))))) (ds_one (d1_ret de_bl)) ds_nil))))))))))))))) (ds_cons (S_asg 2 sc_law.nd (DO.fr (do_lst (da_cons (DX.de (dx_call c_stretches hr (da_cons (c_str [97, 98, 97, 98]) (da_cons (e_pow de_int de_int) (da_cons (e_mul de_int (e_pow de_int de_int)) da_nil))))) (da_cons (DX.de (dx_call c_stretches hr (da_cons (c_str [97, 97, 98, 97, 98]) (da_cons de_int (da_cons de_int da_nil))))) (da_cons (DX.de (dx_call c_stretches hr (da_cons (c_str []) (da_cons de_int (da_cons (e_pow de_int de_int) da_nil))))) da_nil)))))) (ds_cons (d1_if (dt_not (dt_tru (DX.de (dx_call c__law_exact hr (da_cons (v 2) (da_cons (DO.fr (do_lst (da_cons (DO.fr (do_lst da_nil)) (da_cons (DO.fr (do_lst (da_cons (de_tup (da_cons de_int (da_cons de_int (da_cons de_int da_nil)))) da_nil))) (da_cons (DO.fr (do_lst da_nil)) da_nil))))) da_nil)))))) (ds_one (d1_ret de_bl)) ds_nil) (ds_one (d1_ret (DX.de (dx_call c__law_exact hr (da_cons (DO.fr (do_lst (da_cons (DX.de (dx_call c_meeting_length hr (da_cons de_int (da_cons de_int da_nil)))) (da_cons (DX.de (dx_call c_two_period_word hr (da_cons de_int (da_cons de_int da_nil)))) (da_cons (DX.de (dx_call c_two_period_word hr (da_cons de_int (da_cons de_int da_nil)))) da_nil))))) (da_cons (DO.fr (do_lst (da_cons de_int (da_cons de_non (da_cons de_non da_nil))))) da_nil)))))))))
theorem cal_law {k : Nat} {F : FC} (T : Top K mg) (h : FnOk P w K mg base CX0 k T.a_law T.d_law ["script"] (spD κ 1 F)) : Cal κ P w K mg base "law" k 1 F [] := ⟨_, _, _, [], [], h, T.m_law, T.f_law.kp, b_law T, .nil, fun _ _ => .nil⟩
end
def top_mk {K : PySem.W.Frag} {h : Heap} {mg : Str → Option Value} (X : K.In h) (G : h.Ns mainGlobals mg)
    {f_is_whole : Addr} {od_is_whole an_is_whole : Option Addr} {sl_is_whole : Array (Option Value)} {oc_is_whole kV_is_whole dc_is_whole pm_is_whole cd_is_whole ct_is_whole : Value}
    (a_is_whole : PySem.W.nsIn K mainGlobals "is_whole" = some (some (.ref f_is_whole))) (l_is_whole : K.lookup f_is_whole = some ⟨oc_is_whole, od_is_whole, .func (PySem.W.fnOf "is_whole" "is_whole" (defArgs s_is_whole) (defBody s_is_whole) (defScope s_is_whole) .none kV_is_whole dc_is_whole pm_is_whole an_is_whole cd_is_whole ct_is_whole), sl_is_whole⟩) (c_is_whole : PySem.W.codeIn K cd_is_whole "is_whole" = true) (k_is_whole : PySem.W.keepIn K (.ref f_is_whole) = true)
    {f_is_count t_is_count : Addr} {od_is_count an_is_count tdd_is_count : Option Addr} {sl_is_count tsl_is_count : Array (Option Value)} {tn_is_count : Nat} {oc_is_count kV_is_count dc_is_count pm_is_count cd_is_count ct_is_count toc_is_count : Value}
    (a_is_count : PySem.W.nsIn K mainGlobals "is_count" = some (some (.ref f_is_count))) (l_is_count : K.lookup f_is_count = some ⟨oc_is_count, od_is_count, .func (PySem.W.fnOf "is_count" "is_count" (defArgs s_is_count) (defBody s_is_count) (defScope s_is_count) (.ref t_is_count) kV_is_count dc_is_count pm_is_count an_is_count cd_is_count ct_is_count), sl_is_count⟩) (c_is_count : PySem.W.codeIn K cd_is_count "is_count" = true) (k_is_count : PySem.W.keepIn K (.ref f_is_count) = true) (t2_is_count : K.lookup t_is_count = some ⟨toc_is_count, tdd_is_count, .seq [Value.none].toArray tn_is_count, tsl_is_count⟩)
    {f_is_text : Addr} {od_is_text an_is_text : Option Addr} {sl_is_text : Array (Option Value)} {oc_is_text kV_is_text dc_is_text pm_is_text cd_is_text ct_is_text : Value}
    (a_is_text : PySem.W.nsIn K mainGlobals "is_text" = some (some (.ref f_is_text))) (l_is_text : K.lookup f_is_text = some ⟨oc_is_text, od_is_text, .func (PySem.W.fnOf "is_text" "is_text" (defArgs s_is_text) (defBody s_is_text) (defScope s_is_text) .none kV_is_text dc_is_text pm_is_text an_is_text cd_is_text ct_is_text), sl_is_text⟩) (c_is_text : PySem.W.codeIn K cd_is_text "is_text" = true) (k_is_text : PySem.W.keepIn K (.ref f_is_text) = true)
    {f_is_word : Addr} {od_is_word an_is_word : Option Addr} {sl_is_word : Array (Option Value)} {oc_is_word kV_is_word dc_is_word pm_is_word cd_is_word ct_is_word : Value}
    (a_is_word : PySem.W.nsIn K mainGlobals "is_word" = some (some (.ref f_is_word))) (l_is_word : K.lookup f_is_word = some ⟨oc_is_word, od_is_word, .func (PySem.W.fnOf "is_word" "is_word" (defArgs s_is_word) (defBody s_is_word) (defScope s_is_word) .none kV_is_word dc_is_word pm_is_word an_is_word cd_is_word ct_is_word), sl_is_word⟩) (c_is_word : PySem.W.codeIn K cd_is_word "is_word" = true) (k_is_word : PySem.W.keepIn K (.ref f_is_word) = true)
    {f_check_text : Addr} {od_check_text an_check_text : Option Addr} {sl_check_text : Array (Option Value)} {oc_check_text kV_check_text dc_check_text pm_check_text cd_check_text ct_check_text : Value}
    (a_check_text : PySem.W.nsIn K mainGlobals "check_text" = some (some (.ref f_check_text))) (l_check_text : K.lookup f_check_text = some ⟨oc_check_text, od_check_text, .func (PySem.W.fnOf "check_text" "check_text" (defArgs s_check_text) (defBody s_check_text) (defScope s_check_text) .none kV_check_text dc_check_text pm_check_text an_check_text cd_check_text ct_check_text), sl_check_text⟩) (c_check_text : PySem.W.codeIn K cd_check_text "check_text" = true) (k_check_text : PySem.W.keepIn K (.ref f_check_text) = true)
    {f_check_from : Addr} {od_check_from an_check_from : Option Addr} {sl_check_from : Array (Option Value)} {oc_check_from kV_check_from dc_check_from pm_check_from cd_check_from ct_check_from : Value}
    (a_check_from : PySem.W.nsIn K mainGlobals "check_from" = some (some (.ref f_check_from))) (l_check_from : K.lookup f_check_from = some ⟨oc_check_from, od_check_from, .func (PySem.W.fnOf "check_from" "check_from" (defArgs s_check_from) (defBody s_check_from) (defScope s_check_from) .none kV_check_from dc_check_from pm_check_from an_check_from cd_check_from ct_check_from), sl_check_from⟩) (c_check_from : PySem.W.codeIn K cd_check_from "check_from" = true) (k_check_from : PySem.W.keepIn K (.ref f_check_from) = true)
    {f_has : Addr} {od_has an_has : Option Addr} {sl_has : Array (Option Value)} {oc_has kV_has dc_has pm_has cd_has ct_has : Value}
    (a_has : PySem.W.nsIn K mainGlobals "has" = some (some (.ref f_has))) (l_has : K.lookup f_has = some ⟨oc_has, od_has, .func (PySem.W.fnOf "has" "has" (defArgs s_has) (defBody s_has) (defScope s_has) .none kV_has dc_has pm_has an_has cd_has ct_has), sl_has⟩) (c_has : PySem.W.codeIn K cd_has "has" = true) (k_has : PySem.W.keepIn K (.ref f_has) = true)
    {f_divisor : Addr} {od_divisor an_divisor : Option Addr} {sl_divisor : Array (Option Value)} {oc_divisor kV_divisor dc_divisor pm_divisor cd_divisor ct_divisor : Value}
    (a_divisor : PySem.W.nsIn K mainGlobals "divisor" = some (some (.ref f_divisor))) (l_divisor : K.lookup f_divisor = some ⟨oc_divisor, od_divisor, .func (PySem.W.fnOf "divisor" "divisor" (defArgs s_divisor) (defBody s_divisor) (defScope s_divisor) .none kV_divisor dc_divisor pm_divisor an_divisor cd_divisor ct_divisor), sl_divisor⟩) (c_divisor : PySem.W.codeIn K cd_divisor "divisor" = true) (k_divisor : PySem.W.keepIn K (.ref f_divisor) = true)
    {f_meeting_length : Addr} {od_meeting_length an_meeting_length : Option Addr} {sl_meeting_length : Array (Option Value)} {oc_meeting_length kV_meeting_length dc_meeting_length pm_meeting_length cd_meeting_length ct_meeting_length : Value}
    (a_meeting_length : PySem.W.nsIn K mainGlobals "meeting_length" = some (some (.ref f_meeting_length))) (l_meeting_length : K.lookup f_meeting_length = some ⟨oc_meeting_length, od_meeting_length, .func (PySem.W.fnOf "meeting_length" "meeting_length" (defArgs s_meeting_length) (defBody s_meeting_length) (defScope s_meeting_length) .none kV_meeting_length dc_meeting_length pm_meeting_length an_meeting_length cd_meeting_length ct_meeting_length), sl_meeting_length⟩) (c_meeting_length : PySem.W.codeIn K cd_meeting_length "meeting_length" = true) (k_meeting_length : PySem.W.keepIn K (.ref f_meeting_length) = true)
    {f_linked : Addr} {od_linked an_linked : Option Addr} {sl_linked : Array (Option Value)} {oc_linked kV_linked dc_linked pm_linked cd_linked ct_linked : Value}
    (a_linked : PySem.W.nsIn K mainGlobals "linked" = some (some (.ref f_linked))) (l_linked : K.lookup f_linked = some ⟨oc_linked, od_linked, .func (PySem.W.fnOf "linked" "linked" (defArgs s_linked) (defBody s_linked) (defScope s_linked) .none kV_linked dc_linked pm_linked an_linked cd_linked ct_linked), sl_linked⟩) (c_linked : PySem.W.codeIn K cd_linked "linked" = true) (k_linked : PySem.W.keepIn K (.ref f_linked) = true)
    {f_two_period_word : Addr} {od_two_period_word an_two_period_word : Option Addr} {sl_two_period_word : Array (Option Value)} {oc_two_period_word kV_two_period_word dc_two_period_word pm_two_period_word cd_two_period_word ct_two_period_word : Value}
    (a_two_period_word : PySem.W.nsIn K mainGlobals "two_period_word" = some (some (.ref f_two_period_word))) (l_two_period_word : K.lookup f_two_period_word = some ⟨oc_two_period_word, od_two_period_word, .func (PySem.W.fnOf "two_period_word" "two_period_word" (defArgs s_two_period_word) (defBody s_two_period_word) (defScope s_two_period_word) .none kV_two_period_word dc_two_period_word pm_two_period_word an_two_period_word cd_two_period_word ct_two_period_word), sl_two_period_word⟩) (c_two_period_word : PySem.W.codeIn K cd_two_period_word "two_period_word" = true) (k_two_period_word : PySem.W.keepIn K (.ref f_two_period_word) = true)
    {f_is_two_period_word : Addr} {od_is_two_period_word an_is_two_period_word : Option Addr} {sl_is_two_period_word : Array (Option Value)} {oc_is_two_period_word kV_is_two_period_word dc_is_two_period_word pm_is_two_period_word cd_is_two_period_word ct_is_two_period_word : Value}
    (a_is_two_period_word : PySem.W.nsIn K mainGlobals "is_two_period_word" = some (some (.ref f_is_two_period_word))) (l_is_two_period_word : K.lookup f_is_two_period_word = some ⟨oc_is_two_period_word, od_is_two_period_word, .func (PySem.W.fnOf "is_two_period_word" "is_two_period_word" (defArgs s_is_two_period_word) (defBody s_is_two_period_word) (defScope s_is_two_period_word) .none kV_is_two_period_word dc_is_two_period_word pm_is_two_period_word an_is_two_period_word cd_is_two_period_word ct_is_two_period_word), sl_is_two_period_word⟩) (c_is_two_period_word : PySem.W.codeIn K cd_is_two_period_word "is_two_period_word" = true) (k_is_two_period_word : PySem.W.keepIn K (.ref f_is_two_period_word) = true)
    {f_rows_of : Addr} {od_rows_of an_rows_of : Option Addr} {sl_rows_of : Array (Option Value)} {oc_rows_of kV_rows_of dc_rows_of pm_rows_of cd_rows_of ct_rows_of : Value}
    (a_rows_of : PySem.W.nsIn K mainGlobals "rows_of" = some (some (.ref f_rows_of))) (l_rows_of : K.lookup f_rows_of = some ⟨oc_rows_of, od_rows_of, .func (PySem.W.fnOf "rows_of" "rows_of" (defArgs s_rows_of) (defBody s_rows_of) (defScope s_rows_of) .none kV_rows_of dc_rows_of pm_rows_of an_rows_of cd_rows_of ct_rows_of), sl_rows_of⟩) (c_rows_of : PySem.W.codeIn K cd_rows_of "rows_of" = true) (k_rows_of : PySem.W.keepIn K (.ref f_rows_of) = true)
    {f_stretches_in : Addr} {od_stretches_in an_stretches_in : Option Addr} {sl_stretches_in : Array (Option Value)} {oc_stretches_in kV_stretches_in dc_stretches_in pm_stretches_in cd_stretches_in ct_stretches_in : Value}
    (a_stretches_in : PySem.W.nsIn K mainGlobals "stretches_in" = some (some (.ref f_stretches_in))) (l_stretches_in : K.lookup f_stretches_in = some ⟨oc_stretches_in, od_stretches_in, .func (PySem.W.fnOf "stretches_in" "stretches_in" (defArgs s_stretches_in) (defBody s_stretches_in) (defScope s_stretches_in) .none kV_stretches_in dc_stretches_in pm_stretches_in an_stretches_in cd_stretches_in ct_stretches_in), sl_stretches_in⟩) (c_stretches_in : PySem.W.codeIn K cd_stretches_in "stretches_in" = true) (k_stretches_in : PySem.W.keepIn K (.ref f_stretches_in) = true)
    {f_stretches : Addr} {od_stretches an_stretches : Option Addr} {sl_stretches : Array (Option Value)} {oc_stretches kV_stretches dc_stretches pm_stretches cd_stretches ct_stretches : Value}
    (a_stretches : PySem.W.nsIn K mainGlobals "stretches" = some (some (.ref f_stretches))) (l_stretches : K.lookup f_stretches = some ⟨oc_stretches, od_stretches, .func (PySem.W.fnOf "stretches" "stretches" (defArgs s_stretches) (defBody s_stretches) (defScope s_stretches) .none kV_stretches dc_stretches pm_stretches an_stretches cd_stretches ct_stretches), sl_stretches⟩) (c_stretches : PySem.W.codeIn K cd_stretches "stretches" = true) (k_stretches : PySem.W.keepIn K (.ref f_stretches) = true)
    {f__law_dice : Addr} {od__law_dice an__law_dice : Option Addr} {sl__law_dice : Array (Option Value)} {oc__law_dice kV__law_dice dc__law_dice pm__law_dice cd__law_dice ct__law_dice : Value}
    (a__law_dice : PySem.W.nsIn K mainGlobals "_law_dice" = some (some (.ref f__law_dice))) (l__law_dice : K.lookup f__law_dice = some ⟨oc__law_dice, od__law_dice, .func (PySem.W.fnOf "_law_dice" "_law_dice" (defArgs s__law_dice) (defBody s__law_dice) (defScope s__law_dice) .none kV__law_dice dc__law_dice pm__law_dice an__law_dice cd__law_dice ct__law_dice), sl__law_dice⟩) (c__law_dice : PySem.W.codeIn K cd__law_dice "_law_dice" = true) (k__law_dice : PySem.W.keepIn K (.ref f__law_dice) = true)
    {f__law_mixed : Addr} {od__law_mixed an__law_mixed : Option Addr} {sl__law_mixed : Array (Option Value)} {oc__law_mixed kV__law_mixed dc__law_mixed pm__law_mixed cd__law_mixed ct__law_mixed : Value}
    (a__law_mixed : PySem.W.nsIn K mainGlobals "_law_mixed" = some (some (.ref f__law_mixed))) (l__law_mixed : K.lookup f__law_mixed = some ⟨oc__law_mixed, od__law_mixed, .func (PySem.W.fnOf "_law_mixed" "_law_mixed" (defArgs s__law_mixed) (defBody s__law_mixed) (defScope s__law_mixed) .none kV__law_mixed dc__law_mixed pm__law_mixed an__law_mixed cd__law_mixed ct__law_mixed), sl__law_mixed⟩) (c__law_mixed : PySem.W.codeIn K cd__law_mixed "_law_mixed" = true) (k__law_mixed : PySem.W.keepIn K (.ref f__law_mixed) = true)
    {f__law_draw : Addr} {od__law_draw an__law_draw : Option Addr} {sl__law_draw : Array (Option Value)} {oc__law_draw kV__law_draw dc__law_draw pm__law_draw cd__law_draw ct__law_draw : Value}
    (a__law_draw : PySem.W.nsIn K mainGlobals "_law_draw" = some (some (.ref f__law_draw))) (l__law_draw : K.lookup f__law_draw = some ⟨oc__law_draw, od__law_draw, .func (PySem.W.fnOf "_law_draw" "_law_draw" (defArgs s__law_draw) (defBody s__law_draw) (defScope s__law_draw) .none kV__law_draw dc__law_draw pm__law_draw an__law_draw cd__law_draw ct__law_draw), sl__law_draw⟩) (c__law_draw : PySem.W.codeIn K cd__law_draw "_law_draw" = true) (k__law_draw : PySem.W.keepIn K (.ref f__law_draw) = true)
    {f__law_one_of : Addr} {od__law_one_of an__law_one_of : Option Addr} {sl__law_one_of : Array (Option Value)} {oc__law_one_of kV__law_one_of dc__law_one_of pm__law_one_of cd__law_one_of ct__law_one_of : Value}
    (a__law_one_of : PySem.W.nsIn K mainGlobals "_law_one_of" = some (some (.ref f__law_one_of))) (l__law_one_of : K.lookup f__law_one_of = some ⟨oc__law_one_of, od__law_one_of, .func (PySem.W.fnOf "_law_one_of" "_law_one_of" (defArgs s__law_one_of) (defBody s__law_one_of) (defScope s__law_one_of) .none kV__law_one_of dc__law_one_of pm__law_one_of an__law_one_of cd__law_one_of ct__law_one_of), sl__law_one_of⟩) (c__law_one_of : PySem.W.codeIn K cd__law_one_of "_law_one_of" = true) (k__law_one_of : PySem.W.keepIn K (.ref f__law_one_of) = true)
    {f__law_exact : Addr} {od__law_exact an__law_exact : Option Addr} {sl__law_exact : Array (Option Value)} {oc__law_exact kV__law_exact dc__law_exact pm__law_exact cd__law_exact ct__law_exact : Value}
    (a__law_exact : PySem.W.nsIn K mainGlobals "_law_exact" = some (some (.ref f__law_exact))) (l__law_exact : K.lookup f__law_exact = some ⟨oc__law_exact, od__law_exact, .func (PySem.W.fnOf "_law_exact" "_law_exact" (defArgs s__law_exact) (defBody s__law_exact) (defScope s__law_exact) .none kV__law_exact dc__law_exact pm__law_exact an__law_exact cd__law_exact ct__law_exact), sl__law_exact⟩) (c__law_exact : PySem.W.codeIn K cd__law_exact "_law_exact" = true) (k__law_exact : PySem.W.keepIn K (.ref f__law_exact) = true)
    {f__law_dices : Addr} {od__law_dices an__law_dices : Option Addr} {sl__law_dices : Array (Option Value)} {oc__law_dices kV__law_dices dc__law_dices pm__law_dices cd__law_dices ct__law_dices : Value}
    (a__law_dices : PySem.W.nsIn K mainGlobals "_law_dices" = some (some (.ref f__law_dices))) (l__law_dices : K.lookup f__law_dices = some ⟨oc__law_dices, od__law_dices, .func (PySem.W.fnOf "_law_dices" "_law_dices" (defArgs s__law_dices) (defBody s__law_dices) (defScope s__law_dices) .none kV__law_dices dc__law_dices pm__law_dices an__law_dices cd__law_dices ct__law_dices), sl__law_dices⟩) (c__law_dices : PySem.W.codeIn K cd__law_dices "_law_dices" = true) (k__law_dices : PySem.W.keepIn K (.ref f__law_dices) = true)
    {f__law_letters : Addr} {od__law_letters an__law_letters : Option Addr} {sl__law_letters : Array (Option Value)} {oc__law_letters kV__law_letters dc__law_letters pm__law_letters cd__law_letters ct__law_letters : Value}
    (a__law_letters : PySem.W.nsIn K mainGlobals "_law_letters" = some (some (.ref f__law_letters))) (l__law_letters : K.lookup f__law_letters = some ⟨oc__law_letters, od__law_letters, .func (PySem.W.fnOf "_law_letters" "_law_letters" (defArgs s__law_letters) (defBody s__law_letters) (defScope s__law_letters) .none kV__law_letters dc__law_letters pm__law_letters an__law_letters cd__law_letters ct__law_letters), sl__law_letters⟩) (c__law_letters : PySem.W.codeIn K cd__law_letters "_law_letters" = true) (k__law_letters : PySem.W.keepIn K (.ref f__law_letters) = true)
    {f__law_ground : Addr} {od__law_ground an__law_ground : Option Addr} {sl__law_ground : Array (Option Value)} {oc__law_ground kV__law_ground dc__law_ground pm__law_ground cd__law_ground ct__law_ground : Value}
    (a__law_ground : PySem.W.nsIn K mainGlobals "_law_ground" = some (some (.ref f__law_ground))) (l__law_ground : K.lookup f__law_ground = some ⟨oc__law_ground, od__law_ground, .func (PySem.W.fnOf "_law_ground" "_law_ground" (defArgs s__law_ground) (defBody s__law_ground) (defScope s__law_ground) .none kV__law_ground dc__law_ground pm__law_ground an__law_ground cd__law_ground ct__law_ground), sl__law_ground⟩) (c__law_ground : PySem.W.codeIn K cd__law_ground "_law_ground" = true) (k__law_ground : PySem.W.keepIn K (.ref f__law_ground) = true)
    {f__law_words_of : Addr} {od__law_words_of an__law_words_of : Option Addr} {sl__law_words_of : Array (Option Value)} {oc__law_words_of kV__law_words_of dc__law_words_of pm__law_words_of cd__law_words_of ct__law_words_of : Value}
    (a__law_words_of : PySem.W.nsIn K mainGlobals "_law_words_of" = some (some (.ref f__law_words_of))) (l__law_words_of : K.lookup f__law_words_of = some ⟨oc__law_words_of, od__law_words_of, .func (PySem.W.fnOf "_law_words_of" "_law_words_of" (defArgs s__law_words_of) (defBody s__law_words_of) (defScope s__law_words_of) .none kV__law_words_of dc__law_words_of pm__law_words_of an__law_words_of cd__law_words_of ct__law_words_of), sl__law_words_of⟩) (c__law_words_of : PySem.W.codeIn K cd__law_words_of "_law_words_of" = true) (k__law_words_of : PySem.W.keepIn K (.ref f__law_words_of) = true)
    {f__law_text : Addr} {od__law_text an__law_text : Option Addr} {sl__law_text : Array (Option Value)} {oc__law_text kV__law_text dc__law_text pm__law_text cd__law_text ct__law_text : Value}
    (a__law_text : PySem.W.nsIn K mainGlobals "_law_text" = some (some (.ref f__law_text))) (l__law_text : K.lookup f__law_text = some ⟨oc__law_text, od__law_text, .func (PySem.W.fnOf "_law_text" "_law_text" (defArgs s__law_text) (defBody s__law_text) (defScope s__law_text) .none kV__law_text dc__law_text pm__law_text an__law_text cd__law_text ct__law_text), sl__law_text⟩) (c__law_text : PySem.W.codeIn K cd__law_text "_law_text" = true) (k__law_text : PySem.W.keepIn K (.ref f__law_text) = true)
    {f__law_divisor : Addr} {od__law_divisor an__law_divisor : Option Addr} {sl__law_divisor : Array (Option Value)} {oc__law_divisor kV__law_divisor dc__law_divisor pm__law_divisor cd__law_divisor ct__law_divisor : Value}
    (a__law_divisor : PySem.W.nsIn K mainGlobals "_law_divisor" = some (some (.ref f__law_divisor))) (l__law_divisor : K.lookup f__law_divisor = some ⟨oc__law_divisor, od__law_divisor, .func (PySem.W.fnOf "_law_divisor" "_law_divisor" (defArgs s__law_divisor) (defBody s__law_divisor) (defScope s__law_divisor) .none kV__law_divisor dc__law_divisor pm__law_divisor an__law_divisor cd__law_divisor ct__law_divisor), sl__law_divisor⟩) (c__law_divisor : PySem.W.codeIn K cd__law_divisor "_law_divisor" = true) (k__law_divisor : PySem.W.keepIn K (.ref f__law_divisor) = true)
    {f__law_has : Addr} {od__law_has an__law_has : Option Addr} {sl__law_has : Array (Option Value)} {oc__law_has kV__law_has dc__law_has pm__law_has cd__law_has ct__law_has : Value}
    (a__law_has : PySem.W.nsIn K mainGlobals "_law_has" = some (some (.ref f__law_has))) (l__law_has : K.lookup f__law_has = some ⟨oc__law_has, od__law_has, .func (PySem.W.fnOf "_law_has" "_law_has" (defArgs s__law_has) (defBody s__law_has) (defScope s__law_has) .none kV__law_has dc__law_has pm__law_has an__law_has cd__law_has ct__law_has), sl__law_has⟩) (c__law_has : PySem.W.codeIn K cd__law_has "_law_has" = true) (k__law_has : PySem.W.keepIn K (.ref f__law_has) = true)
    {f__law_is_two : Addr} {od__law_is_two an__law_is_two : Option Addr} {sl__law_is_two : Array (Option Value)} {oc__law_is_two kV__law_is_two dc__law_is_two pm__law_is_two cd__law_is_two ct__law_is_two : Value}
    (a__law_is_two : PySem.W.nsIn K mainGlobals "_law_is_two" = some (some (.ref f__law_is_two))) (l__law_is_two : K.lookup f__law_is_two = some ⟨oc__law_is_two, od__law_is_two, .func (PySem.W.fnOf "_law_is_two" "_law_is_two" (defArgs s__law_is_two) (defBody s__law_is_two) (defScope s__law_is_two) .none kV__law_is_two dc__law_is_two pm__law_is_two an__law_is_two cd__law_is_two ct__law_is_two), sl__law_is_two⟩) (c__law_is_two : PySem.W.codeIn K cd__law_is_two "_law_is_two" = true) (k__law_is_two : PySem.W.keepIn K (.ref f__law_is_two) = true)
    {f__law_pair_right : Addr} {od__law_pair_right an__law_pair_right : Option Addr} {sl__law_pair_right : Array (Option Value)} {oc__law_pair_right kV__law_pair_right dc__law_pair_right pm__law_pair_right cd__law_pair_right ct__law_pair_right : Value}
    (a__law_pair_right : PySem.W.nsIn K mainGlobals "_law_pair_right" = some (some (.ref f__law_pair_right))) (l__law_pair_right : K.lookup f__law_pair_right = some ⟨oc__law_pair_right, od__law_pair_right, .func (PySem.W.fnOf "_law_pair_right" "_law_pair_right" (defArgs s__law_pair_right) (defBody s__law_pair_right) (defScope s__law_pair_right) .none kV__law_pair_right dc__law_pair_right pm__law_pair_right an__law_pair_right cd__law_pair_right ct__law_pair_right), sl__law_pair_right⟩) (c__law_pair_right : PySem.W.codeIn K cd__law_pair_right "_law_pair_right" = true) (k__law_pair_right : PySem.W.keepIn K (.ref f__law_pair_right) = true)
    {f__law_far_pair_right : Addr} {od__law_far_pair_right an__law_far_pair_right : Option Addr} {sl__law_far_pair_right : Array (Option Value)} {oc__law_far_pair_right kV__law_far_pair_right dc__law_far_pair_right pm__law_far_pair_right cd__law_far_pair_right ct__law_far_pair_right : Value}
    (a__law_far_pair_right : PySem.W.nsIn K mainGlobals "_law_far_pair_right" = some (some (.ref f__law_far_pair_right))) (l__law_far_pair_right : K.lookup f__law_far_pair_right = some ⟨oc__law_far_pair_right, od__law_far_pair_right, .func (PySem.W.fnOf "_law_far_pair_right" "_law_far_pair_right" (defArgs s__law_far_pair_right) (defBody s__law_far_pair_right) (defScope s__law_far_pair_right) .none kV__law_far_pair_right dc__law_far_pair_right pm__law_far_pair_right an__law_far_pair_right cd__law_far_pair_right ct__law_far_pair_right), sl__law_far_pair_right⟩) (c__law_far_pair_right : PySem.W.codeIn K cd__law_far_pair_right "_law_far_pair_right" = true) (k__law_far_pair_right : PySem.W.keepIn K (.ref f__law_far_pair_right) = true)
    {f__law_words_meet : Addr} {od__law_words_meet an__law_words_meet : Option Addr} {sl__law_words_meet : Array (Option Value)} {oc__law_words_meet kV__law_words_meet dc__law_words_meet pm__law_words_meet cd__law_words_meet ct__law_words_meet : Value}
    (a__law_words_meet : PySem.W.nsIn K mainGlobals "_law_words_meet" = some (some (.ref f__law_words_meet))) (l__law_words_meet : K.lookup f__law_words_meet = some ⟨oc__law_words_meet, od__law_words_meet, .func (PySem.W.fnOf "_law_words_meet" "_law_words_meet" (defArgs s__law_words_meet) (defBody s__law_words_meet) (defScope s__law_words_meet) .none kV__law_words_meet dc__law_words_meet pm__law_words_meet an__law_words_meet cd__law_words_meet ct__law_words_meet), sl__law_words_meet⟩) (c__law_words_meet : PySem.W.codeIn K cd__law_words_meet "_law_words_meet" = true) (k__law_words_meet : PySem.W.keepIn K (.ref f__law_words_meet) = true)
    {f__law_stretches : Addr} {od__law_stretches an__law_stretches : Option Addr} {sl__law_stretches : Array (Option Value)} {oc__law_stretches kV__law_stretches dc__law_stretches pm__law_stretches cd__law_stretches ct__law_stretches : Value}
    (a__law_stretches : PySem.W.nsIn K mainGlobals "_law_stretches" = some (some (.ref f__law_stretches))) (l__law_stretches : K.lookup f__law_stretches = some ⟨oc__law_stretches, od__law_stretches, .func (PySem.W.fnOf "_law_stretches" "_law_stretches" (defArgs s__law_stretches) (defBody s__law_stretches) (defScope s__law_stretches) .none kV__law_stretches dc__law_stretches pm__law_stretches an__law_stretches cd__law_stretches ct__law_stretches), sl__law_stretches⟩) (c__law_stretches : PySem.W.codeIn K cd__law_stretches "_law_stretches" = true) (k__law_stretches : PySem.W.keepIn K (.ref f__law_stretches) = true)
    {f__law_text_right : Addr} {od__law_text_right an__law_text_right : Option Addr} {sl__law_text_right : Array (Option Value)} {oc__law_text_right kV__law_text_right dc__law_text_right pm__law_text_right cd__law_text_right ct__law_text_right : Value}
    (a__law_text_right : PySem.W.nsIn K mainGlobals "_law_text_right" = some (some (.ref f__law_text_right))) (l__law_text_right : K.lookup f__law_text_right = some ⟨oc__law_text_right, od__law_text_right, .func (PySem.W.fnOf "_law_text_right" "_law_text_right" (defArgs s__law_text_right) (defBody s__law_text_right) (defScope s__law_text_right) .none kV__law_text_right dc__law_text_right pm__law_text_right an__law_text_right cd__law_text_right ct__law_text_right), sl__law_text_right⟩) (c__law_text_right : PySem.W.codeIn K cd__law_text_right "_law_text_right" = true) (k__law_text_right : PySem.W.keepIn K (.ref f__law_text_right) = true)
    {f_law : Addr} {od_law an_law : Option Addr} {sl_law : Array (Option Value)} {oc_law kV_law dc_law pm_law cd_law ct_law : Value}
    (a_law : PySem.W.nsIn K mainGlobals "law" = some (some (.ref f_law))) (l_law : K.lookup f_law = some ⟨oc_law, od_law, .func (PySem.W.fnOf "law" "law" (defArgs s_law) (defBody s_law) (defScope s_law) .none kV_law dc_law pm_law an_law cd_law ct_law), sl_law⟩) (c_law : PySem.W.codeIn K cd_law "law" = true) (k_law : PySem.W.keepIn K (.ref f_law) = true)
    (z_all : PySem.W.nsIn K mainGlobals "all" = some none)
    (z_bool : PySem.W.nsIn K mainGlobals "bool" = some none)
    (z_dict : PySem.W.nsIn K mainGlobals "dict" = some none)
    (z_int : PySem.W.nsIn K mainGlobals "int" = some none)
    (z_isinstance : PySem.W.nsIn K mainGlobals "isinstance" = some none)
    (z_len : PySem.W.nsIn K mainGlobals "len" = some none)
    (z_list : PySem.W.nsIn K mainGlobals "list" = some none)
    (z_max : PySem.W.nsIn K mainGlobals "max" = some none)
    (z_min : PySem.W.nsIn K mainGlobals "min" = some none)
    (z_range : PySem.W.nsIn K mainGlobals "range" = some none)
    (z_sorted : PySem.W.nsIn K mainGlobals "sorted" = some none)
    (z_str : PySem.W.nsIn K mainGlobals "str" = some none)
    (z_sum : PySem.W.nsIn K mainGlobals "sum" = some none)
    (z_tuple : PySem.W.nsIn K mainGlobals "tuple" = some none)
    (z_zip : PySem.W.nsIn K mainGlobals "zip" = some none)
    : Top K mg := ⟨f_is_whole, _, PySem.W.mg_of X G a_is_whole, fun_mk l_is_whole c_is_whole k_is_whole, f_is_count, PySem.W.fnOf "is_count" "is_count" (defArgs s_is_count) (defBody s_is_count) (defScope s_is_count) (.ref t_is_count) kV_is_count dc_is_count pm_is_count an_is_count cd_is_count ct_is_count, PySem.W.mg_of X G a_is_count, ⟨⟨oc_is_count, od_is_count, .ref t_is_count, kV_is_count, dc_is_count, pm_is_count, an_is_count, cd_is_count, ct_is_count, sl_is_count, rfl, l_is_count, c_is_count, .inr ⟨by simp, t_is_count, _, _, _, rfl, t2_is_count, rfl, .cons rfl (.nil)⟩, .inl rfl⟩, k_is_count⟩, f_is_text, _, PySem.W.mg_of X G a_is_text, fun_mk l_is_text c_is_text k_is_text, f_is_word, _, PySem.W.mg_of X G a_is_word, fun_mk l_is_word c_is_word k_is_word, f_check_text, _, PySem.W.mg_of X G a_check_text, fun_mk l_check_text c_check_text k_check_text, f_check_from, _, PySem.W.mg_of X G a_check_from, fun_mk l_check_from c_check_from k_check_from, f_has, _, PySem.W.mg_of X G a_has, fun_mk l_has c_has k_has, f_divisor, _, PySem.W.mg_of X G a_divisor, fun_mk l_divisor c_divisor k_divisor, f_meeting_length, _, PySem.W.mg_of X G a_meeting_length, fun_mk l_meeting_length c_meeting_length k_meeting_length, f_linked, _, PySem.W.mg_of X G a_linked, fun_mk l_linked c_linked k_linked, f_two_period_word, _, PySem.W.mg_of X G a_two_period_word, fun_mk l_two_period_word c_two_period_word k_two_period_word, f_is_two_period_word, _, PySem.W.mg_of X G a_is_two_period_word, fun_mk l_is_two_period_word c_is_two_period_word k_is_two_period_word, f_rows_of, _, PySem.W.mg_of X G a_rows_of, fun_mk l_rows_of c_rows_of k_rows_of, f_stretches_in, _, PySem.W.mg_of X G a_stretches_in, fun_mk l_stretches_in c_stretches_in k_stretches_in, f_stretches, _, PySem.W.mg_of X G a_stretches, fun_mk l_stretches c_stretches k_stretches, f__law_dice, _, PySem.W.mg_of X G a__law_dice, fun_mk l__law_dice c__law_dice k__law_dice, f__law_mixed, _, PySem.W.mg_of X G a__law_mixed, fun_mk l__law_mixed c__law_mixed k__law_mixed, f__law_draw, _, PySem.W.mg_of X G a__law_draw, fun_mk l__law_draw c__law_draw k__law_draw, f__law_one_of, _, PySem.W.mg_of X G a__law_one_of, fun_mk l__law_one_of c__law_one_of k__law_one_of, f__law_exact, _, PySem.W.mg_of X G a__law_exact, fun_mk l__law_exact c__law_exact k__law_exact, f__law_dices, _, PySem.W.mg_of X G a__law_dices, fun_mk l__law_dices c__law_dices k__law_dices, f__law_letters, _, PySem.W.mg_of X G a__law_letters, fun_mk l__law_letters c__law_letters k__law_letters, f__law_ground, _, PySem.W.mg_of X G a__law_ground, fun_mk l__law_ground c__law_ground k__law_ground, f__law_words_of, _, PySem.W.mg_of X G a__law_words_of, fun_mk l__law_words_of c__law_words_of k__law_words_of, f__law_text, _, PySem.W.mg_of X G a__law_text, fun_mk l__law_text c__law_text k__law_text, f__law_divisor, _, PySem.W.mg_of X G a__law_divisor, fun_mk l__law_divisor c__law_divisor k__law_divisor, f__law_has, _, PySem.W.mg_of X G a__law_has, fun_mk l__law_has c__law_has k__law_has, f__law_is_two, _, PySem.W.mg_of X G a__law_is_two, fun_mk l__law_is_two c__law_is_two k__law_is_two, f__law_pair_right, _, PySem.W.mg_of X G a__law_pair_right, fun_mk l__law_pair_right c__law_pair_right k__law_pair_right, f__law_far_pair_right, _, PySem.W.mg_of X G a__law_far_pair_right, fun_mk l__law_far_pair_right c__law_far_pair_right k__law_far_pair_right, f__law_words_meet, _, PySem.W.mg_of X G a__law_words_meet, fun_mk l__law_words_meet c__law_words_meet k__law_words_meet, f__law_stretches, _, PySem.W.mg_of X G a__law_stretches, fun_mk l__law_stretches c__law_stretches k__law_stretches, f__law_text_right, _, PySem.W.mg_of X G a__law_text_right, fun_mk l__law_text_right c__law_text_right k__law_text_right, f_law, _, PySem.W.mg_of X G a_law, fun_mk l_law c_law k_law, PySem.W.mg_none_of X G z_all, PySem.W.mg_none_of X G z_bool, PySem.W.mg_none_of X G z_dict, PySem.W.mg_none_of X G z_int, PySem.W.mg_none_of X G z_isinstance, PySem.W.mg_none_of X G z_len, PySem.W.mg_none_of X G z_list, PySem.W.mg_none_of X G z_max, PySem.W.mg_none_of X G z_min, PySem.W.mg_none_of X G z_range, PySem.W.mg_none_of X G z_sorted, PySem.W.mg_none_of X G z_str, PySem.W.mg_none_of X G z_sum, PySem.W.mg_none_of X G z_tuple, PySem.W.mg_none_of X G z_zip, fun s v => .of_eq rfl⟩
end K05
namespace K05
open PySem PySem.Spec PyProof.Rows L2 DL
theorem all_ok {P : Program} {w : World} {K : PySem.W.Frag} {mg : Str → Option Value} {base : Heap} (T : Top K mg) : FnOk P w K mg base CX0 10 T.a_law T.d_law ["script"] (spD (kit0 K) 1 F_law) := by
  have h_is_whole := ok_is_whole (κ := (kit0 K)) (P := P) (w := w) (base := base) T (F := F_is_whole) law_is_whole rfl
  have c_is_whole := cal_is_whole T h_is_whole
  have h_is_count := ok_is_count (κ := (kit0 K)) (P := P) (w := w) (base := base) T c_is_whole (F := F_is_count) law_is_count rfl
  have c_is_count := cal_is_count_0 T h_is_count
  have c_is_count_1 := cal_is_count_1 T h_is_count
  have h_is_text := ok_is_text (κ := (kit0 K)) (P := P) (w := w) (base := base) T (F := F_is_text) law_is_text rfl
  have c_is_text := cal_is_text T h_is_text
  have h_is_word := ok_is_word (κ := (kit0 K)) (P := P) (w := w) (base := base) T c_is_text (F := F_is_word) law_is_word rfl
  have c_is_word := cal_is_word T h_is_word
  have h_check_text := ok_check_text (κ := (kit0 K)) (P := P) (w := w) (base := base) T c_is_text (F := F_check_text) law_check_text rfl
  have c_check_text := cal_check_text T h_check_text
  have h_check_from := ok_check_from (κ := (kit0 K)) (P := P) (w := w) (base := base) T c_is_count_1 (F := F_check_from) law_check_from rfl
  have c_check_from := cal_check_from T h_check_from
  have h_has := ok_has (κ := (kit0 K)) (P := P) (w := w) (base := base) T (F := F_has) law_has rfl
  have c_has := cal_has T h_has
  have h_divisor := ok_divisor (κ := (kit0 K)) (P := P) (w := w) (base := base) T (F := F_divisor) law_divisor rfl
  have c_divisor := cal_divisor T h_divisor
  have h_meeting_length := ok_meeting_length (κ := (kit0 K)) (P := P) (w := w) (base := base) T c_check_from c_divisor (F := F_meeting_length) law_meeting_length rfl
  have c_meeting_length := cal_meeting_length T h_meeting_length
  have h_linked := ok_linked (κ := (kit0 K)) (P := P) (w := w) (base := base) T (F := F_linked) law_linked rfl
  have c_linked := cal_linked T h_linked
  have h_two_period_word := ok_two_period_word (κ := (kit0 K)) (P := P) (w := w) (base := base) T c_divisor c_linked c_meeting_length (F := F_two_period_word) law_two_period_word rfl
  have c_two_period_word := cal_two_period_word T h_two_period_word
  have h_is_two_period_word := ok_is_two_period_word (κ := (kit0 K)) (P := P) (w := w) (base := base) T c_divisor c_has c_is_word c_meeting_length (F := F_is_two_period_word) law_is_two_period_word rfl
  have c_is_two_period_word := cal_is_two_period_word T h_is_two_period_word
  have h_rows_of := ok_rows_of (κ := (kit0 K)) (P := P) (w := w) (base := base) T (F := F_rows_of) law_rows_of rfl
  have c_rows_of := cal_rows_of T h_rows_of
  have h_stretches_in := ok_stretches_in (κ := (kit0 K)) (P := P) (w := w) (base := base) T c_rows_of (F := F_stretches_in) law_stretches_in rfl
  have c_stretches_in := cal_stretches_in T h_stretches_in
  have h_stretches := ok_stretches (κ := (kit0 K)) (P := P) (w := w) (base := base) T c_check_from c_check_text c_stretches_in (F := F_stretches) law_stretches rfl
  have c_stretches := cal_stretches T h_stretches
  have h__law_dice := dice_of kit0_dice (ok__law_dice (κ := (kit0 K)) (P := P) (w := w) (base := base) T pre_dice0 rfl) dice_step
  have c__law_dice := cal__law_dice T h__law_dice
  have h__law_mixed := ok__law_mixed (κ := (kit0 K)) (P := P) (w := w) (base := base) T (F := F_mixed) pre_mixed rfl
  have c__law_mixed := cal__law_mixed T h__law_mixed
  have h__law_draw := ok__law_draw (κ := (kit0 K)) (P := P) (w := w) (base := base) T c__law_mixed kit0_dice (F := F_draw) pre_draw rfl
  have c__law_draw := cal__law_draw T h__law_draw
  have h__law_one_of := ok__law_one_of (κ := (kit0 K)) (P := P) (w := w) (base := base) T c__law_draw (F := F_one_of) pre_one_of rfl
  have c__law_one_of := cal__law_one_of T h__law_one_of
  have hx__law_exact : ∀ k : Nat, FnOk P w K mg base CX0 (k + 1) T.a__law_exact T.d__law_exact ["mine", "theirs"] (spD (kit0 K) 2 (F_exact k)) := by
    intro k
    induction k with
    | zero => exact ok__law_exact T (Nat.zero_le _) (cal__law_exact (k := 0) T fn_none) (pre_exactF 0 F_none fun j h => nomatch h) rfl
    | succ k ih => exact ok__law_exact T (Nat.zero_le _) (cal__law_exact T ih) (pre_exactF (k + 1) (F_exact k) fun j h => by cases h; rfl) rfl
  have h__law_exact := (hx__law_exact 5).mono (k := 8) (by decide)
  have c__law_exact := cal__law_exact T h__law_exact
  have h__law_dices := ok__law_dices (κ := (kit0 K)) (P := P) (w := w) (base := base) T c__law_dice (F := F_dices) pre_dices rfl
  have c__law_dices := cal__law_dices T h__law_dices
  have h__law_letters := ok__law_letters (κ := (kit0 K)) (P := P) (w := w) (base := base) T c__law_draw (F := F__law_letters) law__law_letters rfl
  have c__law_letters := cal__law_letters T h__law_letters
  have h__law_ground := ok__law_ground (κ := (kit0 K)) (P := P) (w := w) (base := base) T c__law_draw c__law_letters c__law_one_of (F := F__law_ground) law__law_ground rfl
  have c__law_ground := cal__law_ground T h__law_ground
  have h__law_words_of := ok__law_words_of (κ := (kit0 K)) (P := P) (w := w) (base := base) T (F := F__law_words_of) law__law_words_of rfl
  have c__law_words_of := cal__law_words_of T h__law_words_of
  have h__law_text := ok__law_text (κ := (kit0 K)) (P := P) (w := w) (base := base) T c__law_draw c__law_one_of (F := F__law_text) law__law_text rfl
  have c__law_text := cal__law_text T h__law_text
  have h__law_divisor := ok__law_divisor (κ := (kit0 K)) (P := P) (w := w) (base := base) T (F := F__law_divisor) law__law_divisor rfl
  have c__law_divisor := cal__law_divisor T h__law_divisor
  have h__law_has := ok__law_has (κ := (kit0 K)) (P := P) (w := w) (base := base) T (F := F__law_has) law__law_has rfl
  have c__law_has := cal__law_has T h__law_has
  have h__law_is_two := ok__law_is_two (κ := (kit0 K)) (P := P) (w := w) (base := base) T c__law_divisor c__law_has (F := F__law_is_two) law__law_is_two rfl
  have c__law_is_two := cal__law_is_two T h__law_is_two
  have h__law_pair_right := ok__law_pair_right (κ := (kit0 K)) (P := P) (w := w) (base := base) T c__law_divisor c__law_draw c__law_exact c__law_is_two c__law_one_of c_is_two_period_word c_meeting_length c_two_period_word (F := F__law_pair_right) law__law_pair_right rfl
  have c__law_pair_right := cal__law_pair_right T h__law_pair_right
  have h__law_far_pair_right := ok__law_far_pair_right (κ := (kit0 K)) (P := P) (w := w) (base := base) T c__law_divisor c__law_exact c__law_is_two c_is_two_period_word c_meeting_length c_two_period_word (F := F__law_far_pair_right) law__law_far_pair_right rfl
  have c__law_far_pair_right := cal__law_far_pair_right T h__law_far_pair_right
  have h__law_words_meet := ok__law_words_meet (κ := (kit0 K)) (P := P) (w := w) (base := base) T c__law_divisor c__law_has c__law_words_of (F := F__law_words_meet) law__law_words_meet rfl
  have c__law_words_meet := cal__law_words_meet T h__law_words_meet
  have h__law_stretches := ok__law_stretches (κ := (kit0 K)) (P := P) (w := w) (base := base) T c__law_has (F := F__law_stretches) law__law_stretches rfl
  have c__law_stretches := cal__law_stretches T h__law_stretches
  have h__law_text_right := ok__law_text_right (κ := (kit0 K)) (P := P) (w := w) (base := base) T c__law_exact c__law_stretches c_stretches (F := F__law_text_right) law__law_text_right rfl
  have c__law_text_right := cal__law_text_right T h__law_text_right
  have h_law := ok_law (κ := (kit0 K)) (P := P) (w := w) (base := base) T c__law_dices c__law_draw c__law_exact c__law_far_pair_right c__law_ground c__law_one_of c__law_pair_right c__law_text c__law_text_right c__law_words_meet c_meeting_length c_stretches c_two_period_word (F := F_law) law_law rfl
  have c_law := cal_law T h_law
  exact h_law
theorem bind_ok {K : PySem.W.Frag} {mg : Str → Option Value} (T : Top K mg) : ∀ (s : Shared) (v : Value), BindsTo s T.d_law ⟨[v], []⟩ [("script", v)] := T.bind_law
theorem F_ok {P : Program} {w : World} {K : PySem.W.Frag} {mg : Str → Option Value} {fa : Addr} (T : Top K mg) (h : mg "law" = some (.ref fa)) : ∃ fd : FuncData, (∀ (s : Shared) (v : Value), BindsTo s fd ⟨[v], []⟩ [("script", v)]) ∧ ∀ base : Heap, K.In base → base.Ns mainGlobals mg → FnOk P w K mg base CX0 10 fa fd ["script"] (spD (kit0 K) 1 F_law) := by
  have e := h.symm.trans T.m_law
  cases e
  exact ⟨T.d_law, bind_ok T, fun base _ _ => all_ok T⟩
end K05
open PySem PySem.W PyProof.Rows
set_option maxHeartbeats 0 in
theorem PySem.Challenge.cw_owncuts_k05_whole_meeting_periods_and_st_holds : PySem.Challenge.rw_owncuts_k05_whole_meeting_periods_and_st.Holds := by
  w_on; o_law; k_head; (case hw => w_witness2)
  k_fill
  refine L2.walk_of (l := PySem.Challenge.rw_owncuts_k05_whole_meeting_periods_and_st) (n := 63) (k := 10) (x := "script") (CX := fun _ => L2.CX0) (sp := fun w => DL.spD (DL.kit0 _) 1 DL.F_law) rfl (by decide) rfl ⟨rfl, by decide, by decide⟩ (fun w h Y => PySem.W.kIn_of Y) ?F (fun _ _ a ns hl _ hS => DL.law_sp hl hS) (fun _ _ _ _ _ h => h)
  case F =>
    intro w mg fa h KX G hmg
    refine' K05.F_ok (K05.top_mk KX G ?a_is_whole ?l_is_whole ?c_is_whole ?k_is_whole ?a_is_count ?l_is_count ?c_is_count ?k_is_count ?t2_is_count ?a_is_text ?l_is_text ?c_is_text ?k_is_text ?a_is_word ?l_is_word ?c_is_word ?k_is_word ?a_check_text ?l_check_text ?c_check_text ?k_check_text ?a_check_from ?l_check_from ?c_check_from ?k_check_from ?a_has ?l_has ?c_has ?k_has ?a_divisor ?l_divisor ?c_divisor ?k_divisor ?a_meeting_length ?l_meeting_length ?c_meeting_length ?k_meeting_length ?a_linked ?l_linked ?c_linked ?k_linked ?a_two_period_word ?l_two_period_word ?c_two_period_word ?k_two_period_word ?a_is_two_period_word ?l_is_two_period_word ?c_is_two_period_word ?k_is_two_period_word ?a_rows_of ?l_rows_of ?c_rows_of ?k_rows_of ?a_stretches_in ?l_stretches_in ?c_stretches_in ?k_stretches_in ?a_stretches ?l_stretches ?c_stretches ?k_stretches ?a__law_dice ?l__law_dice ?c__law_dice ?k__law_dice ?a__law_mixed ?l__law_mixed ?c__law_mixed ?k__law_mixed ?a__law_draw ?l__law_draw ?c__law_draw ?k__law_draw ?a__law_one_of ?l__law_one_of ?c__law_one_of ?k__law_one_of ?a__law_exact ?l__law_exact ?c__law_exact ?k__law_exact ?a__law_dices ?l__law_dices ?c__law_dices ?k__law_dices ?a__law_letters ?l__law_letters ?c__law_letters ?k__law_letters ?a__law_ground ?l__law_ground ?c__law_ground ?k__law_ground ?a__law_words_of ?l__law_words_of ?c__law_words_of ?k__law_words_of ?a__law_text ?l__law_text ?c__law_text ?k__law_text ?a__law_divisor ?l__law_divisor ?c__law_divisor ?k__law_divisor ?a__law_has ?l__law_has ?c__law_has ?k__law_has ?a__law_is_two ?l__law_is_two ?c__law_is_two ?k__law_is_two ?a__law_pair_right ?l__law_pair_right ?c__law_pair_right ?k__law_pair_right ?a__law_far_pair_right ?l__law_far_pair_right ?c__law_far_pair_right ?k__law_far_pair_right ?a__law_words_meet ?l__law_words_meet ?c__law_words_meet ?k__law_words_meet ?a__law_stretches ?l__law_stretches ?c__law_stretches ?k__law_stretches ?a__law_text_right ?l__law_text_right ?c__law_text_right ?k__law_text_right ?a_law ?l_law ?c_law ?k_law ?z_all ?z_bool ?z_dict ?z_int ?z_isinstance ?z_len ?z_list ?z_max ?z_min ?z_range ?z_sorted ?z_str ?z_sum ?z_tuple ?z_zip) hmg
    (case a_is_whole => k_is); (case l_is_whole => k_is); (case c_is_whole => k_is); (case k_is_whole => k_is); (case a_is_count => k_is); (case l_is_count => k_is); (case c_is_count => k_is); (case k_is_count => k_is); (case t2_is_count => k_is); (case a_is_text => k_is); (case l_is_text => k_is); (case c_is_text => k_is); (case k_is_text => k_is); (case a_is_word => k_is); (case l_is_word => k_is); (case c_is_word => k_is); (case k_is_word => k_is); (case a_check_text => k_is); (case l_check_text => k_is); (case c_check_text => k_is); (case k_check_text => k_is); (case a_check_from => k_is); (case l_check_from => k_is); (case c_check_from => k_is); (case k_check_from => k_is); (case a_has => k_is); (case l_has => k_is); (case c_has => k_is); (case k_has => k_is); (case a_divisor => k_is); (case l_divisor => k_is); (case c_divisor => k_is); (case k_divisor => k_is); (case a_meeting_length => k_is); (case l_meeting_length => k_is); (case c_meeting_length => k_is); (case k_meeting_length => k_is); (case a_linked => k_is); (case l_linked => k_is); (case c_linked => k_is); (case k_linked => k_is); (case a_two_period_word => k_is); (case l_two_period_word => k_is); (case c_two_period_word => k_is); (case k_two_period_word => k_is); (case a_is_two_period_word => k_is); (case l_is_two_period_word => k_is); (case c_is_two_period_word => k_is); (case k_is_two_period_word => k_is); (case a_rows_of => k_is); (case l_rows_of => k_is); (case c_rows_of => k_is); (case k_rows_of => k_is); (case a_stretches_in => k_is); (case l_stretches_in => k_is); (case c_stretches_in => k_is); (case k_stretches_in => k_is); (case a_stretches => k_is); (case l_stretches => k_is); (case c_stretches => k_is); (case k_stretches => k_is); (case a__law_dice => k_is); (case l__law_dice => k_is); (case c__law_dice => k_is); (case k__law_dice => k_is); (case a__law_mixed => k_is); (case l__law_mixed => k_is); (case c__law_mixed => k_is); (case k__law_mixed => k_is); (case a__law_draw => k_is); (case l__law_draw => k_is); (case c__law_draw => k_is); (case k__law_draw => k_is); (case a__law_one_of => k_is); (case l__law_one_of => k_is); (case c__law_one_of => k_is); (case k__law_one_of => k_is); (case a__law_exact => k_is); (case l__law_exact => k_is); (case c__law_exact => k_is); (case k__law_exact => k_is); (case a__law_dices => k_is); (case l__law_dices => k_is); (case c__law_dices => k_is); (case k__law_dices => k_is); (case a__law_letters => k_is); (case l__law_letters => k_is); (case c__law_letters => k_is); (case k__law_letters => k_is); (case a__law_ground => k_is); (case l__law_ground => k_is); (case c__law_ground => k_is); (case k__law_ground => k_is); (case a__law_words_of => k_is); (case l__law_words_of => k_is); (case c__law_words_of => k_is); (case k__law_words_of => k_is); (case a__law_text => k_is); (case l__law_text => k_is); (case c__law_text => k_is); (case k__law_text => k_is); (case a__law_divisor => k_is); (case l__law_divisor => k_is); (case c__law_divisor => k_is); (case k__law_divisor => k_is); (case a__law_has => k_is); (case l__law_has => k_is); (case c__law_has => k_is); (case k__law_has => k_is); (case a__law_is_two => k_is); (case l__law_is_two => k_is); (case c__law_is_two => k_is); (case k__law_is_two => k_is); (case a__law_pair_right => k_is); (case l__law_pair_right => k_is); (case c__law_pair_right => k_is); (case k__law_pair_right => k_is); (case a__law_far_pair_right => k_is); (case l__law_far_pair_right => k_is); (case c__law_far_pair_right => k_is); (case k__law_far_pair_right => k_is); (case a__law_words_meet => k_is); (case l__law_words_meet => k_is); (case c__law_words_meet => k_is); (case k__law_words_meet => k_is); (case a__law_stretches => k_is); (case l__law_stretches => k_is); (case c__law_stretches => k_is); (case k__law_stretches => k_is); (case a__law_text_right => k_is); (case l__law_text_right => k_is); (case c__law_text_right => k_is); (case k__law_text_right => k_is); (case a_law => k_is); (case l_law => k_is); (case c_law => k_is); (case k_law => k_is); (case z_all => k_is); (case z_bool => k_is); (case z_dict => k_is); (case z_int => k_is); (case z_isinstance => k_is); (case z_len => k_is); (case z_list => k_is); (case z_max => k_is); (case z_min => k_is); (case z_range => k_is); (case z_sorted => k_is); (case z_str => k_is); (case z_sum => k_is); (case z_tuple => k_is); (case z_zip => k_is)
