import PyProof.Rows.All
import Wide.All
import OpenK.AllK
import Wide.FinOn
import HandS.ForMost
import HandS.Exc
import HandS.TryOnly
import HandS.ExcOwn
import HandS.WordsExc
import HandS.CallSlots
import HandS.Wide
import HandS.Defaults
import HandS.HeadHook1
import HandS.IsInst
import HandS.SortInts
import HandS.Walk
import HandS.Head0
import HandS.Head1
import HandS.Head2
import HandS.HeadEnd
import HandS.HeadHook2
import HandS.Conv
import HandS.FltList
import HandS.ExcIs
import HandS.HeadHook4
import HandS.SuiteRaise
import HandS.RaiseFrom
import HandS.Iter
import HandS.Style
import HandS.More
import PyProof.ZipIter
import KE.KDictZip
import KE.KItemsList
import HandS.ListItems
import HandS.TupSets
import HandS.TupAny
import KE.BitLaws
import PyProof.P3Eq
import PySem.Challenge.RW_barewire_k01_what_is_a_form
set_option Elab.async false
set_option linter.all false
set_option maxRecDepth 100000
set_option maxHeartbeats 4000000
/-! The data layer: pure data D, what stands for it in an abstract heap, slots, the judgements. -/
namespace BW
open PySem L2

/-- pure data -/
inductive D where
  | non | bl (b : Bool) | int (i : Int) | str (x : Str) | lst (xs : List D) | tup (xs : List D) | scr (xs : List Int)
  | obj (w : Option Addr) (cls : Str) (ks : List Str) (ds : List D)
  | dic (ks : List Key) (ds : List D)

class Enc (t : Type) where
  enc : t → D
abbrev enc {t : Type} [Enc t] (x : t) : D := Enc.enc x
structure T1 (a : Type) where
  a : a
structure T3 (a b c : Type) where
  a : a
  b : b
  c : c
structure T4 (a b c d : Type) where
  a : a
  b : b
  c : c
  d : d
structure T5 (a b c d e : Type) where
  a : a
  b : b
  c : c
  d : d
  e : e
structure T6 (a b c d e f : Type) where
  a : a
  b : b
  c : c
  d : d
  e : e
  f : f
/-- the script: a list that nobody writes -/
structure Scr where
  xs : List Int
instance : Enc Scr := ⟨fun s => .scr s.xs⟩
instance : Enc D := ⟨id⟩
instance : Enc Int := ⟨D.int⟩
instance : Enc Bool := ⟨D.bl⟩
instance : Enc Str := ⟨D.str⟩
instance : Enc Unit := ⟨fun _ => .non⟩
instance {t : Type} [Enc t] : Enc (List t) := ⟨fun xs => .lst (xs.map enc)⟩
instance {t : Type} [Enc t] : Enc (Option t) := ⟨fun o => match o with | none => .non | some x => enc x⟩
instance {a b : Type} [Enc a] [Enc b] : Enc (a × b) := ⟨fun x => .tup [enc x.1, enc x.2]⟩
instance {a : Type} [Enc a] : Enc (T1 a) := ⟨fun x => .tup [enc x.a]⟩
instance {a b c : Type} [Enc a] [Enc b] [Enc c] : Enc (T3 a b c) := ⟨fun x => .tup [enc x.a, enc x.b, enc x.c]⟩
instance {a b c d : Type} [Enc a] [Enc b] [Enc c] [Enc d] : Enc (T4 a b c d) := ⟨fun x => .tup [enc x.a, enc x.b, enc x.c, enc x.d]⟩
instance {a b c d e : Type} [Enc a] [Enc b] [Enc c] [Enc d] [Enc e] : Enc (T5 a b c d e) := ⟨fun x => .tup [enc x.a, enc x.b, enc x.c, enc x.d, enc x.e]⟩
instance {a b c d e f : Type} [Enc a] [Enc b] [Enc c] [Enc d] [Enc e] [Enc f] : Enc (T6 a b c d e f) := ⟨fun x => .tup [enc x.a, enc x.b, enc x.c, enc x.d, enc x.e, enc x.f]⟩

/-- a list that nobody writes: frozen, or an object of the module -/
def Fro (K : PySem.W.Frag) (H : Hp) (a : Addr) (vs : List V) : Prop := (∃ o, H a = some (.frz o (.lst vs))) ∨ ∀ H', SqL K H' a vs
theorem Fro.sq {K : PySem.W.Frag} {H : Hp} {a : Addr} {vs : List V} (h : Fro K H a vs) : SqL K H a vs := by
  rcases h with ⟨o, h⟩ | h
  · exact .inl (.inr ⟨o, h⟩)
  · exact h H

mutual
/-- the value v stands for d; fp: the lists within (those that can be written) -/
inductive Rep (K : PySem.W.Frag) (H : Hp) : List Addr → V → D → Prop
  | non : Rep K H [] .non .non
  | bl (b : Bool) : Rep K H [] (.bl b) (.bl b)
  | int (i : Int) : Rep K H [] (.int i) (.int i)
  | str (x : Str) : Rep K H [] (.str x) (.str x)
  | lst {a : Addr} {vs : List V} {fp : List Addr} {ds : List D} : H a = some (.lst vs) → Reps K H fp vs ds → Rep K H (a :: fp) (.ref a) (.lst ds)
  | scr {a : Addr} {xs : List Int} : Fro K H a (xs.map V.int) → Rep K H [] (.ref a) (.scr xs)
  | tup {a : Addr} {vs : List V} {fp : List Addr} {ds : List D} : SqT K H a vs → Reps K H fp vs ds → Rep K H fp (.ref a) (.tup ds)
  | obj {w : Option Addr} {cls : Str} {ks : List Str} {a dx : Addr} {vs : List V} {fp : List Addr} {ds : List D} : (∀ b, w = some b → b = a) → H a = some (.ins (He.ga K cls) dx (ks.zip vs)) → ks.length = ds.length → Reps K H fp vs ds → Rep K H (a :: fp) (.ref a) (.obj w cls ks ds)
  | dic {ks : List Key} {a : Addr} {vs : List V} {fp : List Addr} {ds : List D} : H a = some (.dK (ks.zip vs)) → ks.length = ds.length → Reps K H fp vs ds → Rep K H (a :: fp) (.ref a) (.dic ks ds)
inductive Reps (K : PySem.W.Frag) (H : Hp) : List Addr → List V → List D → Prop
  | nil : Reps K H [] [] []
  | cons {fp fp' : List Addr} {v : V} {vs : List V} {d : D} {ds : List D} : Rep K H fp v d → Reps K H fp' vs ds → Reps K H (fp ++ fp') (v :: vs) (d :: ds)
end

section
variable {K : PySem.W.Frag} {H H' H1 H2 : Hp} {fp fp' : List Addr} {v : V} {vs : List V} {d : D} {ds : List D}

/-- from O at H to O' at H': what was tracked and not owned is as it was, and not owned -/
def Frm (O : Addr → Prop) (H : Hp) (O' : Addr → Prop) (H' : Hp) : Prop := ∀ b o, H b = some o → ¬ O b → H' b = some o ∧ ¬ O' b
/-- what can be owned: a list, an object -/
inductive Mut : HO → Prop
  | lst (xs : List V) : Mut (.lst xs)
  | ins (C dx : Addr) (fs : List (Str × V)) : Mut (.ins C dx fs)
  | dK (kvs : List (Key × V)) : Mut (.dK kvs)
def Lsts (H : Hp) (O : Addr → Prop) : Prop := ∀ a, O a → ∃ o, H a = some o ∧ Mut o
theorem Frm.trans {O O' O2 : Addr → Prop} (a : Frm O H O' H1) (b : Frm O' H1 O2 H2) : Frm O H O2 H2 := fun c o h n => b c o (a c o h n).1 (a c o h n).2

theorem SqT.frm {O O' : Addr → Prop} {a : Addr} {xs : List V} (f : Frm O H O' H') (l : Lsts H O) (h : SqT K H a xs) : SqT K H' a xs := by
  rcases h with (h | ⟨o, h⟩) | h
  · refine .inl (.inl (f a _ h fun z => ?_).1)
    obtain ⟨ys, e, m⟩ := l a z
    rw [e] at h; cases m <;> cases h
  · refine .inl (.inr ⟨o, (f a _ h fun z => ?_).1⟩)
    obtain ⟨ys, e, m⟩ := l a z
    rw [e] at h; cases m <;> cases h
  · exact .inr h
theorem Fro.frm {O O' : Addr → Prop} {a : Addr} {xs : List V} (f : Frm O H O' H') (l : Lsts H O) (h : Fro K H a xs) : Fro K H' a xs := by
  rcases h with ⟨o, h⟩ | h
  · refine .inl ⟨o, (f a _ h fun z => ?_).1⟩
    obtain ⟨ys, e, m⟩ := l a z
    rw [e] at h; cases m <;> cases h
  · exact .inr h

mutual
theorem Rep.frm {O O' : Addr → Prop} (f : Frm O H O' H') (l : Lsts H O) : ∀ {fp : List Addr} {v : V} {d : D}, Rep K H fp v d → (∀ a ∈ fp, ¬ O a) → Rep K H' fp v d ∧ ∀ a ∈ fp, ¬ O' a
  | _, _, _, .non, _ => ⟨.non, fun _ h => nomatch h⟩
  | _, _, _, .bl b, _ => ⟨.bl b, fun _ h => nomatch h⟩
  | _, _, _, .int i, _ => ⟨.int i, fun _ h => nomatch h⟩
  | _, _, _, .str x, _ => ⟨.str x, fun _ h => nomatch h⟩
  | _, _, _, .lst (a := a) h r, n => by
    obtain ⟨r1, r2⟩ := Reps.frm f l r fun a h => n a (List.mem_cons_of_mem _ h)
    obtain ⟨h1, h2⟩ := f a _ h (n a List.mem_cons_self)
    refine ⟨.lst h1 r1, fun b hb => ?_⟩
    rcases List.mem_cons.mp hb with e | e
    · rw [e]; exact h2
    · exact r2 b e
  | _, _, _, .scr h, _ => ⟨.scr (Fro.frm f l h), fun _ h => nomatch h⟩
  | _, _, _, .tup (a := a) h r, n => by
    obtain ⟨r1, r2⟩ := Reps.frm f l r n
    exact ⟨.tup (SqT.frm f l h) r1, r2⟩
  | _, _, _, .obj (a := a) w h hl r, n => by
    obtain ⟨r1, r2⟩ := Reps.frm f l r fun a h => n a (List.mem_cons_of_mem _ h)
    obtain ⟨h1, h2⟩ := f a _ h (n a List.mem_cons_self)
    refine ⟨.obj w h1 hl r1, fun b hb => ?_⟩
    rcases List.mem_cons.mp hb with e | e
    · rw [e]; exact h2
    · exact r2 b e
  | _, _, _, .dic (a := a) h hl r, n => by
    obtain ⟨r1, r2⟩ := Reps.frm f l r fun a h => n a (List.mem_cons_of_mem _ h)
    obtain ⟨h1, h2⟩ := f a _ h (n a List.mem_cons_self)
    refine ⟨.dic h1 hl r1, fun b hb => ?_⟩
    rcases List.mem_cons.mp hb with e | e
    · rw [e]; exact h2
    · exact r2 b e
theorem Reps.frm {O O' : Addr → Prop} (f : Frm O H O' H') (l : Lsts H O) : ∀ {fp : List Addr} {vs : List V} {ds : List D}, Reps K H fp vs ds → (∀ a ∈ fp, ¬ O a) → Reps K H' fp vs ds ∧ ∀ a ∈ fp, ¬ O' a
  | _, _, _, .nil, _ => ⟨.nil, fun _ h => nomatch h⟩
  | _, _, _, .cons h r, n => by
    obtain ⟨h1, h2⟩ := Rep.frm f l h fun a z => n a (List.mem_append_left _ z)
    obtain ⟨r1, r2⟩ := Reps.frm f l r fun a z => n a (List.mem_append_right _ z)
    refine ⟨.cons h1 r1, fun b hb => ?_⟩
    rcases List.mem_append.mp hb with e | e
    · exact h2 b e
    · exact r2 b e
end
mutual
theorem Rep.lsts : ∀ {fp : List Addr} {v : V} {d : D}, Rep K H fp v d → ∀ a ∈ fp, ∃ o, H a = some o ∧ Mut o
  | _, _, _, .non, _, h => nomatch h
  | _, _, _, .bl b, _, h => nomatch h
  | _, _, _, .int i, _, h => nomatch h
  | _, _, _, .str x, _, h => nomatch h
  | _, _, _, .lst (a := a) h r, b, hb => by
    rcases List.mem_cons.mp hb with e | e
    · rw [e]; exact ⟨_, h, .lst _⟩
    · exact Reps.lsts r b e
  | _, _, _, .scr _, _, h => nomatch h
  | _, _, _, .tup _ r, b, hb => Reps.lsts r b hb
  | _, _, _, .obj (a := a) _ h _ r, b, hb => by
    rcases List.mem_cons.mp hb with e | e
    · rw [e]; exact ⟨_, h, .ins _ _ _⟩
    · exact Reps.lsts r b e
  | _, _, _, .dic (a := a) h _ r, b, hb => by
    rcases List.mem_cons.mp hb with e | e
    · rw [e]; exact ⟨_, h, .dK _⟩
    · exact Reps.lsts r b e
theorem Reps.lsts : ∀ {fp : List Addr} {vs : List V} {ds : List D}, Reps K H fp vs ds → ∀ a ∈ fp, ∃ o, H a = some o ∧ Mut o
  | _, _, _, .nil, _, h => nomatch h
  | _, _, _, .cons h r, b, hb => by
    rcases List.mem_append.mp hb with e | e
    · exact Rep.lsts h b e
    · exact Reps.lsts r b e
end
theorem Same.frm (s : Same H H') : Frm (fun _ => False) H (fun _ => False) H' := fun b o h _ => ⟨s b o h, id⟩
theorem Rep.same (s : Same H H') (r : Rep K H fp v d) : Rep K H' fp v d := (Rep.frm (Same.frm s) (fun _ z => z.elim) r fun _ _ z => z).1
theorem Reps.same (s : Same H H') (r : Reps K H fp vs ds) : Reps K H' fp vs ds := (Reps.frm (Same.frm s) (fun _ z => z.elim) r fun _ _ z => z).1
theorem Rep.there (r : Rep K H fp v d) {a : Addr} (h : a ∈ fp) : H a ≠ none := by
  obtain ⟨xs, e, _⟩ := Rep.lsts r a h
  rw [e]; intro z; cases z
theorem Reps.there (r : Reps K H fp vs ds) {a : Addr} (h : a ∈ fp) : H a ≠ none := by
  obtain ⟨xs, e, _⟩ := Reps.lsts r a h
  rw [e]; intro z; cases z
theorem Same.upd {p : Addr} {o : HO} (h : H p = none) : Same H (upd H p o) := fun b u e => by rw [upd_ne (ne_of_none e h)]; exact e
/-- a list written that is not within -/
theorem frm_updO {a : Addr} {o : HO} : Frm (· = a) H (· = a) (upd H a o) := fun b o h n => ⟨by rw [upd_ne n]; exact h, n⟩
theorem frm_upd {a : Addr} {xs ys : List V} : Frm (· = a) H (· = a) (upd H a (.lst ys)) := frm_updO
theorem Rep.updO {a : Addr} {o o' : HO} (r : Rep K H fp v d) (h : H a = some o) (m : Mut o) (n : a ∉ fp) : Rep K (L2.upd H a o') fp v d :=
  (Rep.frm frm_updO (fun b e => ⟨o, by rw [e]; exact h, m⟩) r fun b hb e => n (by have e' : b = a := e; rw [← e']; exact hb)).1
theorem Reps.updO {a : Addr} {o o' : HO} (r : Reps K H fp vs ds) (h : H a = some o) (m : Mut o) (n : a ∉ fp) : Reps K (L2.upd H a o') fp vs ds :=
  (Reps.frm frm_updO (fun b e => ⟨o, by rw [e]; exact h, m⟩) r fun b hb e => n (by have e' : b = a := e; rw [← e']; exact hb)).1
theorem Rep.upd {a : Addr} {xs ys : List V} (r : Rep K H fp v d) (h : H a = some (.lst xs)) (n : a ∉ fp) : Rep K (L2.upd H a (.lst ys)) fp v d := r.updO h (.lst _) n
theorem Reps.upd {a : Addr} {xs ys : List V} (r : Reps K H fp vs ds) (h : H a = some (.lst xs)) (n : a ∉ fp) : Reps K (L2.upd H a (.lst ys)) fp vs ds := r.updO h (.lst _) n

theorem Rep.int_inv {i : Int} (r : Rep K H fp v (.int i)) : v = .int i ∧ fp = [] := by cases r; exact ⟨rfl, rfl⟩
theorem Rep.bl_inv {i : Bool} (r : Rep K H fp v (.bl i)) : v = .bl i ∧ fp = [] := by cases r; exact ⟨rfl, rfl⟩
theorem Rep.str_inv {i : Str} (r : Rep K H fp v (.str i)) : v = .str i ∧ fp = [] := by cases r; exact ⟨rfl, rfl⟩
theorem Rep.non_inv (r : Rep K H fp v .non) : v = .non ∧ fp = [] := by cases r; exact ⟨rfl, rfl⟩
theorem Rep.lst_inv' (r : Rep K H fp v (.lst ds)) : ∃ a vs fp', v = .ref a ∧ H a = some (.lst vs) ∧ Reps K H fp' vs ds ∧ fp = a :: fp' := by
  cases r with
  | lst h r => exact ⟨_, _, _, rfl, h, r, rfl⟩
theorem Rep.lst_inv (r : Rep K H fp v (.lst ds)) : ∃ a vs fp', v = .ref a ∧ SqL K H a vs ∧ Reps K H fp' vs ds ∧ (∀ b ∈ fp', b ∈ fp) := by
  obtain ⟨a, vs, fp', e, h, r, e2⟩ := r.lst_inv'
  exact ⟨a, vs, fp', e, SqL.of h, r, fun b hb => by rw [e2]; exact List.mem_cons_of_mem _ hb⟩
theorem Rep.scr_inv {xs : List Int} (r : Rep K H fp v (.scr xs)) : ∃ a, v = .ref a ∧ Fro K H a (xs.map V.int) ∧ fp = [] := by
  cases r with
  | scr h => exact ⟨_, rfl, h, rfl⟩
theorem Rep.tup_inv (r : Rep K H fp v (.tup ds)) : ∃ a vs, v = .ref a ∧ SqT K H a vs ∧ Reps K H fp vs ds := by
  cases r with
  | tup h r => exact ⟨_, _, rfl, h, r⟩
theorem Rep.obj_inv {w : Option Addr} {cls : Str} {ks : List Str} (r : Rep K H fp v (.obj w cls ks ds)) : ∃ a dx vs fp', v = .ref a ∧ (∀ b, w = some b → b = a) ∧ H a = some (.ins (He.ga K cls) dx (ks.zip vs)) ∧ ks.length = ds.length ∧ Reps K H fp' vs ds ∧ fp = a :: fp' := by
  cases r with
  | obj h1 h2 h3 r => exact ⟨_, _, _, _, rfl, h1, h2, h3, r, rfl⟩
theorem Rep.dic_inv {ks : List Key} (r : Rep K H fp v (.dic ks ds)) : ∃ a vs fp', v = .ref a ∧ H a = some (.dK (ks.zip vs)) ∧ ks.length = ds.length ∧ Reps K H fp' vs ds ∧ fp = a :: fp' := by
  cases r with
  | dic h1 h2 r => exact ⟨_, _, _, rfl, h1, h2, r, rfl⟩
theorem Reps.length : ∀ {fp : List Addr} {vs : List V} {ds : List D}, Reps K H fp vs ds → vs.length = ds.length
  | _, _, _, .nil => rfl
  | _, _, _, .cons _ r => congrArg Nat.succ r.length
theorem Reps.append : ∀ {fp fp' : List Addr} {vs ws : List V} {ds es : List D}, Reps K H fp vs ds → Reps K H fp' ws es → Reps K H (fp ++ fp') (vs ++ ws) (ds ++ es)
  | _, _, _, _, _, _, .nil, s => s
  | _, _, _, _, _, _, .cons h r, s => by
    have q := Reps.cons h (r.append s)
    rw [← List.append_assoc] at q
    exact q
theorem Reps.get : ∀ {fp : List Addr} {vs : List V} {ds : List D} {i : Nat} {d : D}, Reps K H fp vs ds → ds[i]? = some d → ∃ v fp', vs[i]? = some v ∧ Rep K H fp' v d ∧ (∀ a ∈ fp', a ∈ fp) ∧ (fp.Nodup → fp'.Nodup)
  | _, _, _, i, _, .nil, e => by simp at e
  | _, _, _, 0, d, .cons h r, e => by
    have e' := Option.some.inj e
    subst e'
    exact ⟨_, _, rfl, h, fun a z => List.mem_append_left _ z, fun n => (List.nodup_append.mp n).1⟩
  | _, _, _, i + 1, d, .cons h r, e => by
    obtain ⟨v, fp', e1, r1, s1, n1⟩ := r.get (i := i) (by simpa using e)
    exact ⟨v, fp', by simpa using e1, r1, fun a z => List.mem_append_right _ (s1 a z), fun n => n1 (List.nodup_append.mp n).2.1⟩
theorem Reps.ints : ∀ {fp : List Addr} {vs : List V} {ns : List Int}, Reps K H fp vs (ns.map D.int) → vs = ns.map V.int ∧ fp = []
  | _, _, [], r => by cases r; exact ⟨rfl, rfl⟩
  | _, _, n :: ns, r => by
    cases r with
    | cons h r =>
      obtain ⟨e1, e2⟩ := h.int_inv
      obtain ⟨e3, e4⟩ := r.ints
      subst e1 e2 e3 e4
      exact ⟨rfl, rfl⟩
theorem Reps.of_ints : ∀ (ns : List Int), Reps K H [] (ns.map V.int) (ns.map D.int)
  | [] => .nil
  | n :: ns => .cons (.int n) (Reps.of_ints ns)
end

/-! ### slots -/
inductive Slot where
  | no
  | val (own : Bool) (d : D)
  | exc (a : Addr)
abbrev Gam := List Slot
/-- the owned lists -/
def InO (G : Gam) (F : Nat → List Addr) (a : Addr) : Prop := ∃ i d, G[i]? = some (.val true d) ∧ a ∈ F i
structure Rel (K : PySem.W.Frag) (G : Gam) (σ : St) (H : Hp) (F : Nat → List Addr) : Prop where
  len : σ.length = G.length
  rep : ∀ (i : Nat) m d, G[i]? = some (.val m d) → ∃ v, σ[i]? = some (some v) ∧ Rep K H (F i) v d
  nd : ∀ (i : Nat) d, G[i]? = some (.val true d) → (F i).Nodup
  dj : ∀ (i j : Nat) d m d', i ≠ j → G[i]? = some (.val true d) → G[j]? = some (.val m d') → ∀ a ∈ F i, a ∉ F j
  ex : ∀ (i : Nat) a, G[i]? = some (.exc a) → σ[i]? = some (some (.ref a))
section
variable {K : PySem.W.Frag} {G G' : Gam} {σ : St} {H H' H1 : Hp} {F : Nat → List Addr}
theorem Rel.lsts (R : Rel K G σ H F) : Lsts H (InO G F) := fun a ⟨i, d, e, h⟩ => by
  obtain ⟨v, _, r⟩ := R.rep i _ d e
  exact Rep.lsts r a h
theorem Rel.same (R : Rel K G σ H F) (s : Same H H') : Rel K G σ H' F :=
  ⟨R.len, fun i m d e => by obtain ⟨v, h, r⟩ := R.rep i m d e; exact ⟨v, h, r.same s⟩, R.nd, R.dj, R.ex⟩
theorem Rel.frm (R : Rel K G σ H F) (s : Same H H') : Frm (InO G F) H (InO G F) H' := fun b o h n => ⟨s b o h, n⟩
/-- what is known of a value: nothing; no owned list is within; it is new and in one hand -/
inductive Kd where
  | any | shr | frs
/-- the lists that others may see -/
def InS (G : Gam) (F : Nat → List Addr) (a : Addr) : Prop := ∃ i d, G[i]? = some (.val false d) ∧ a ∈ F i
def KdOk (k : Kd) (S : Addr → Prop) (H : Hp) (fp : List Addr) : Prop := match k with
  | .any => True
  | .shr => ∀ a ∈ fp, H a = none ∨ S a
  | .frs => fp.Nodup ∧ ∀ a ∈ fp, H a = none
theorem KdOk.nil {k : Kd} {O : Addr → Prop} : KdOk k O H [] := by
  cases k
  · trivial
  · exact fun _ h => nomatch h
  · exact ⟨List.nodup_nil, fun _ h => nomatch h⟩
theorem KdOk.shr_of {O : Addr → Prop} {fp : List Addr} (h : KdOk .frs O H fp) : KdOk .shr O H fp := fun a ha => .inl (h.2 a ha)
theorem Rel.inS (R : Rel K G σ H F) {a : Addr} (h : InS G F a) : ¬ InO G F a := fun ⟨j, d', e, hj⟩ => by
  obtain ⟨i, d, ei, hi⟩ := h
  by_cases hij : j = i
  · subst hij; rw [ei] at e; cases e
  · exact R.dj j i d' _ d hij e ei a hj hi
theorem Rel.shrN (R : Rel K G σ H F) {fp : List Addr} (h : KdOk .shr (InS G F) H fp) : ∀ a ∈ fp, ¬ InO G F a := fun a ha => by
  rcases h a ha with e | e
  · intro z
    obtain ⟨xs, q, _⟩ := R.lsts a z
    rw [e] at q; cases q
  · exact R.inS e
def updF (F : Nat → List Addr) (i : Nat) (fp : List Addr) : Nat → List Addr := fun j => if j = i then fp else F j
theorem updF_same {F : Nat → List Addr} {i : Nat} {fp : List Addr} : updF F i fp i = fp := if_pos rfl
theorem updF_ne {F : Nat → List Addr} {i j : Nat} {fp : List Addr} (h : j ≠ i) : updF F i fp j = F j := if_neg h
theorem set_ne {t : Type} {l : List t} {i j : Nat} {x y : t} (h : j ≠ i) (e : (l.set i x)[j]? = some y) : l[j]? = some y := by
  rw [List.getElem?_set_ne (Ne.symm h)] at e; exact e
theorem set_eq {t : Type} {l : List t} {i : Nat} {x y : t} (e : (l.set i x)[i]? = some y) : y = x := by
  rw [List.getElem?_set] at e
  simp at e
  exact e.2.symm
/-- a slot takes a value that is new -/
theorem Rel.put {i : Nat} {m : Bool} {d : D} {v : V} {fp : List Addr} (R : Rel K G σ H F) (s : Same H H1) (r : Rep K H1 fp v d) (hi : i < G.length)
    (hk : if m then KdOk .frs (InS G F) H fp else ∀ a ∈ fp, ¬ InO G F a) :
    Rel K (G.set i (.val m d)) (σ.set i (some v)) H1 (updF F i fp) ∧ Frm (InO G F) H (InO (G.set i (.val m d)) (updF F i fp)) H1 := by
  have out : ∀ (j : Nat) d', G[j]? = some (.val true d') → ∀ a ∈ F j, a ∉ fp := fun j d' e a ha z => by
    cases m
    · exact hk a z ⟨j, d', e, ha⟩
    · obtain ⟨_, _, r'⟩ := R.rep j _ _ e
      exact r'.there ha (hk.2 a z)
  refine ⟨⟨by simp [R.len], fun j m' d' e => ?_, fun j d' e => ?_, fun j j' d' m' d2 n e e' => ?_, fun j a e => by
    by_cases hj : j = i
    · subst hj
      have q := set_eq e
      cases q
    · rw [List.getElem?_set_ne (Ne.symm hj)]
      exact R.ex j a (set_ne hj e)⟩, fun b o h n => ⟨s b o h, ?_⟩⟩
  · by_cases hj : j = i
    · subst hj
      have q := set_eq e
      injection q with q1 q2
      subst q1 q2
      rw [updF_same]
      exact ⟨v, by rw [List.getElem?_set_self (by rw [R.len]; exact hi)], r⟩
    · rw [updF_ne hj]
      obtain ⟨u, h, r'⟩ := R.rep j m' d' (set_ne hj e)
      exact ⟨u, by rw [List.getElem?_set_ne (Ne.symm hj)]; exact h, r'.same s⟩
  · by_cases hj : j = i
    · subst hj
      have q := set_eq e
      injection q with q1 q2
      subst q1
      rw [updF_same]
      exact hk.1
    · rw [updF_ne hj]; exact R.nd j d' (set_ne hj e)
  · by_cases hj : j = i
    · subst hj
      rw [updF_same, updF_ne (Ne.symm n)]
      have q := set_eq e
      injection q with q1 q2
      subst q1
      obtain ⟨_, _, r'⟩ := R.rep j' _ _ (set_ne (Ne.symm n) e')
      intro a ha z
      exact r'.there z (hk.2 a ha)
    · by_cases hj' : j' = i
      · subst hj'
        rw [updF_same, updF_ne n]
        exact out j d' (set_ne n e)
      · rw [updF_ne hj, updF_ne hj']
        exact R.dj j j' d' m' d2 n (set_ne hj e) (set_ne hj' e')
  · rintro ⟨j, d', e, ha⟩
    by_cases hj : j = i
    · subst hj
      have q := set_eq e
      injection q with q1 q2
      subst q1
      rw [updF_same] at ha
      rw [hk.2 b ha] at h; cases h
    · rw [updF_ne hj] at ha
      exact n ⟨j, d', set_ne hj e, ha⟩
end
end BW

set_option Elab.async false
set_option linter.all false
set_option maxRecDepth 100000
set_option maxHeartbeats 4000000
/-! The judgements of the data layer, expressions. -/
namespace BW
open PySem L2

/-- conjunctions without what is plain -/
inductive Cmb : Prop → Prop → Prop → Prop
  | t : Cmb True True True
  | l (p : Prop) : Cmb p True p
  | r (p : Prop) : Cmb True p p
  | b (p q : Prop) : Cmb p q (p ∧ q)
theorem Cmb.out {p q r : Prop} (c : Cmb p q r) (h : r) : p ∧ q := by
  cases c
  · exact ⟨h, h⟩
  · exact ⟨h, trivial⟩
  · exact ⟨trivial, h⟩
  · exact h
/-- the second asked only where b holds -/
inductive CmbIf (b : Bool) : Prop → Prop → Prop → Prop
  | t : CmbIf b True True True
  | l (p : Prop) : CmbIf b p True p
  | r (p : Prop) : CmbIf b True p (b = true → p)
  | b (p q : Prop) : CmbIf b p q (p ∧ (b = true → q))
theorem CmbIf.out {b : Bool} {p q r : Prop} (c : CmbIf b p q r) (h : r) : p ∧ (b = true → q) := by
  cases c
  · exact ⟨h, fun _ => h⟩
  · exact ⟨h, fun _ => trivial⟩
  · exact ⟨trivial, h⟩
  · exact h
/-- c, then a or b by the bool -/
inductive Cmb3 (b : Bool) : Prop → Prop → Prop → Prop → Prop
  | t : Cmb3 b True True True True
  | c (p : Prop) : Cmb3 b p True True p
  | a (q : Prop) : Cmb3 b True q True (b = true → q)
  | b (r : Prop) : Cmb3 b True True r (b = false → r)
  | g (p q r : Prop) : Cmb3 b p q r (p ∧ (b = true → q) ∧ (b = false → r))
theorem Cmb3.out {b : Bool} {p q r s : Prop} (c : Cmb3 b p q r s) (h : s) : p ∧ (b = true → q) ∧ (b = false → r) := by
  cases c
  · exact ⟨h, fun _ => h, fun _ => h⟩
  · exact ⟨h, fun _ => trivial, fun _ => trivial⟩
  · exact ⟨trivial, h, fun _ => trivial⟩
  · exact ⟨trivial, fun _ => trivial, h⟩
  · exact h

/-- what every context of the walk gives -/
structure Cx0 (X : Cx) (N : List Str) (sc : Scope) : Prop where
  hN : X.N = N
  hs : X.env.scope = sc
  nd : N.Nodup
structure Cxf (X : Cx) (N : List Str) (sc : Scope) : Prop extends Cx0 X N sc where
  calm : X.calm = true
instance {X : Cx} {N : List Str} {sc : Scope} : Coe (Cxf X N sc) (Cx0 X N sc) := ⟨Cxf.toCx0⟩
theorem Cx0.gl {X : Cx} {N : List Str} {sc : Scope} (C : Cx0 X N sc) {x : Str} (h : sc.names.lookup x = some .globalImplicit) : Gl X x := by
  show X.env.scope.names.lookup x = _
  rw [C.hs]; exact h
structure Vr (N : List Str) (sc : Scope) (i : Nat) (x : Str) : Prop where
  ix : N[i]? = some x
  vis : Vis sc x
  d1 : (x == ("__debug__" : Str)) = false
  d2 : (x == ("__classdict__" : Str)) = false

/-- an expression: under p its value is x -/
def EX (X : Cx) (G : Gam) (e : Expr) (p : Prop) {t : Type} [Enc t] (x : t) (k : Kd) : Prop :=
  ∃ te, PE X e te ∧ ∀ σ H F (Q : VK), Rel X.K G σ H F → p → (∀ v H' fp, Same H H' → Rep X.K H' fp v (enc x) → KdOk k (InS G F) H fp → Q v H') → te σ H Q
/-- a test -/
def TX (X : Cx) (G : Gam) (e : Expr) (p : Prop) (b : Bool) : Prop :=
  ∃ tt, PT X e tt ∧ ∀ σ H F (Q : Bool → Hp → Prop), Rel X.K G σ H F → p → (∀ H', Same H H' → Q b H') → tt σ H Q
/-- a comparison: a value or a test -/
def CMP (X : Cx) (G : Gam) (e : Expr) (p : Prop) (b : Bool) : Prop :=
  ∃ te, PE X e te ∧ PT X e (tTest te) ∧ ∀ σ H F (Q : VK), Rel X.K G σ H F → p → (∀ H', Same H H' → Q (.bl b) H') → te σ H Q
/-- and / or in a test -/
def WX' (X : Cx) (G : Gam) (e : Expr) (p : Prop) (b : Bool) : Prop :=
  ∃ tt, PW X e tt ∧ ∀ σ H F (Q : Bool → Hp → Prop), Rel X.K G σ H F → p → (∀ H', Same H H' → Q b H') → tt σ H Q
/-- arguments, items -/
def AX (X : Cx) (G : Gam) (es : List Expr) (p : Prop) (ds : List D) (k : Kd) : Prop :=
  ∃ ta, PA X es ta ∧ ∀ σ H F (Q : List V → Hp → Prop), Rel X.K G σ H F → p → (∀ vs H' fp, Same H H' → Reps X.K H' fp vs ds → KdOk k (InS G F) H fp → Q vs H') → ta σ H Q

section
variable {X : Cx} {G : Gam} {N : List Str} {sc : Scope} {e a b c : Expr} {es : List Expr} {p pa pb pr q : Prop} {pos : Pos}

theorem KdOk.weak {O : Addr → Prop} {H : Hp} {fp : List Addr} {k : Kd} (h : KdOk k O H fp) : KdOk .any O H fp := trivial
theorem EX.any {t : Type} [Enc t] {x : t} {k : Kd} (h : EX X G e p x k) : EX X G e p x .any := by
  obtain ⟨te, h1, h2⟩ := h
  exact ⟨te, h1, fun σ H F Q R hp k => h2 σ H F Q R hp fun v H' fp s r _ => k v H' fp s r trivial⟩
theorem EX.shr {t : Type} [Enc t] {x : t} (h : EX X G e p x .frs) : EX X G e p x .shr := by
  obtain ⟨te, h1, h2⟩ := h
  exact ⟨te, h1, fun σ H F Q R hp k => h2 σ H F Q R hp fun v H' fp s r kd => k v H' fp s r (KdOk.shr_of kd)⟩
theorem EX.cast {t u : Type} [Enc t] [Enc u] {x : t} {y : u} {k : Kd} (h : EX X G e p x k) (he : enc x = enc y) : EX X G e p y k := by
  obtain ⟨te, h1, h2⟩ := h
  refine ⟨te, h1, ?_⟩
  rw [← he]
  exact h2
theorem EX.toD {t : Type} [Enc t] {x : t} {k : Kd} (h : EX X G e p x k) : EX X G e p (enc x : D) k := h

theorem ex_int {i : Int} {j} : EX X G (.Constant (.int i) j pos) True i .frs := ⟨_, pe_int, fun _ _ _ _ _ _ k => k _ _ [] (Same.refl _) (.int i) KdOk.nil⟩
theorem ex_bl {i : Bool} {j} : EX X G (.Constant (.bool i) j pos) True i .frs := ⟨_, pe_bl, fun _ _ _ _ _ _ k => k _ _ [] (Same.refl _) (.bl i) KdOk.nil⟩
theorem ex_str {i : Str} {j} : EX X G (.Constant (.str i) j pos) True i .frs := ⟨_, pe_str, fun _ _ _ _ _ _ k => k _ _ [] (Same.refl _) (.str i) KdOk.nil⟩
theorem ex_non {j} : EX X G (.Constant .none j pos) True () .frs := ⟨_, pe_non, fun _ _ _ _ _ _ k => k _ _ [] (Same.refl _) .non KdOk.nil⟩

theorem pe_slot (C : Cx0 X N sc) {i : Nat} {x : Str} (V : Vr N sc i x) : PE X (.Name x pos) (tVar i) :=
  pe_var (by rw [C.hN]; exact V.ix) (by rw [C.hs]; exact V.vis) V.d1 V.d2
/-- a name whose lists others may see, none writes -/
theorem ex_var (C : Cx0 X N sc) {t : Type} [Enc t] {x : t} {y : Str} (i : Nat) (V : Vr N sc i y) (h : G[i]? = some (.val false (enc x)) := by rfl) : EX X G (.Name y pos) True x .shr := by
  refine ⟨_, pe_slot C V, fun σ H F Q R _ k => ?_⟩
  obtain ⟨v, e, r⟩ := R.rep i _ _ h
  exact ⟨v, e, k v H (F i) (Same.refl _) r (fun a ha => .inr ⟨i, _, h, ha⟩)⟩
/-- a name, to be read at once -/
theorem ex_own (C : Cx0 X N sc) {t : Type} [Enc t] {x : t} {y : Str} (i : Nat) (V : Vr N sc i y) {m : Bool} (h : G[i]? = some (.val m (enc x)) := by rfl) : EX X G (.Name y pos) True x .any := by
  refine ⟨_, pe_slot C V, fun σ H F Q R _ k => ?_⟩
  obtain ⟨v, e, r⟩ := R.rep i _ _ h
  exact ⟨v, e, k v H (F i) (Same.refl _) r trivial⟩
/-- data without lists -/
class Flat (t : Type) [Enc t] : Prop where
  flat : ∀ {K : PySem.W.Frag} {H : Hp} {fp : List Addr} {v : V} (x : t), Rep K H fp v (enc x) → fp = []
instance : Flat Scr := ⟨fun x r => by obtain ⟨_, _, _, e⟩ := r.scr_inv; exact e⟩
instance : Flat Int := ⟨fun x r => r.int_inv.2⟩
instance : Flat Bool := ⟨fun x r => r.bl_inv.2⟩
instance : Flat Str := ⟨fun x r => r.str_inv.2⟩
instance : Flat Unit := ⟨fun x r => r.non_inv.2⟩
instance {t : Type} [Enc t] [Flat t] : Flat (Option t) := ⟨fun x r => by
  cases x with
  | none => exact r.non_inv.2
  | some y => exact Flat.flat y r⟩
theorem flat1 {K : PySem.W.Frag} {H : Hp} {d : D} {ds : List D} (h1 : ∀ fp v, Rep K H fp v d → fp = []) (h2 : ∀ fp vs, Reps K H fp vs ds → fp = []) : ∀ fp vs, Reps K H fp vs (d :: ds) → fp = [] := fun fp vs r => by
  cases r with
  | cons h r => rw [h1 _ _ h, h2 _ _ r]; rfl
theorem flat0 {K : PySem.W.Frag} {H : Hp} : ∀ fp vs, Reps K H fp vs [] → fp = [] := fun fp vs r => by cases r; rfl
instance {a b : Type} [Enc a] [Enc b] [Flat a] [Flat b] : Flat (a × b) := ⟨fun {K H fp v} x r => by
  obtain ⟨_, vs, _, _, r⟩ := r.tup_inv
  exact flat1 (fun _ _ r => Flat.flat _ r) (flat1 (fun _ _ r => Flat.flat _ r) flat0) _ _ r⟩
instance {a b c : Type} [Enc a] [Enc b] [Enc c] [Flat a] [Flat b] [Flat c] : Flat (T3 a b c) := ⟨fun {K H fp v} x r => by
  obtain ⟨_, vs, _, _, r⟩ := r.tup_inv
  exact flat1 (fun _ _ r => Flat.flat _ r) (flat1 (fun _ _ r => Flat.flat _ r) (flat1 (fun _ _ r => Flat.flat _ r) flat0)) _ _ r⟩
theorem ex_flt (C : Cx0 X N sc) {t : Type} [Enc t] [Flat t] {x : t} {y : Str} (i : Nat) (V : Vr N sc i y) {m : Bool} (h : G[i]? = some (.val m (enc x)) := by rfl) : EX X G (.Name y pos) True x .frs := by
  refine ⟨_, pe_slot C V, fun σ H F Q R _ k => ?_⟩
  obtain ⟨v, e, r⟩ := R.rep i _ _ h
  have z := Flat.flat x r
  rw [z] at r
  exact ⟨v, e, k v H [] (Same.refl _) r KdOk.nil⟩
theorem EX.flt {t : Type} [Enc t] [Flat t] {x : t} {k : Kd} (h : EX X G e p x k) : EX X G e p x .frs := by
  obtain ⟨te, h1, h2⟩ := h
  exact ⟨te, h1, fun σ H F Q R hp k => h2 σ H F Q R hp fun v H' fp s r _ => k v H' fp s r (by rw [Flat.flat x r]; exact KdOk.nil)⟩
/-- a constant of the module -/
theorem ex_glob {t : Type} [Enc t] {y : Str} {x : t} {v : V} {u : Value} (hg : Gl X y) (hm : X.mg y = some u) (r : RelV v u) (h : ∀ H, Rep X.K H [] v (enc x)) (hd : (y == ("__debug__" : Str)) = false := by decide) : EX X G (.Name y pos) True x .frs :=
  ⟨_, pe_glob hg hm r hd, fun _ H _ _ _ _ k => k v _ [] (Same.refl _) (h H) KdOk.nil⟩

/-! ### operators on two values that give something flat -/
theorem ex_op2 {op : Operator} {r : R2} {t u o : Type} [Enc t] [Enc u] [Enc o] {x : t} {y : u} {z : o} {kx ky : Kd} (ho : OpR X (binaryOp op) r) (ha : EX X G a pa x kx) (hb : EX X G b pb y ky)
    (h : pr → ∀ H fv fw v w (Q : VK), Rep X.K H fv v (enc x) → Rep X.K H fw w (enc y) → (∀ v' H' fp, Same H H' → Rep X.K H' fp v' (enc z) → fp.Nodup → (∀ a ∈ fp, H a = none) → Q v' H') → r v w H Q)
    {p1 : Prop} (c1 : Cmb pa pb p1) (c2 : Cmb p1 pr p) : EX X G (.BinOp a op b pos) p z .frs := by
  obtain ⟨ta, a1, a2⟩ := ha
  obtain ⟨tb, b1, b2⟩ := hb
  refine ⟨_, pe_op ho a1 b1, fun σ H F Q R hp k => ?_⟩
  obtain ⟨hp1, hpr⟩ := c2.out hp
  obtain ⟨hpa, hpb⟩ := c1.out hp1
  refine a2 σ H F _ R hpa fun v H1 fp s1 r1 _ => ?_
  refine b2 σ H1 F _ (R.same s1) hpb fun w H2 fp2 s2 r2 _ => ?_
  exact h hpr H2 _ _ v w Q (r1.same s2) r2 fun v' H' fp' s r' n f => k v' H' fp' (s1.trans (s2.trans s)) r' ⟨n, fun a ha => s1.free (s2.free (f a ha))⟩
theorem ii {K : PySem.W.Frag} {H : Hp} {fv fw : List Addr} {v w : V} {x y z : Int} {C : Prop} {Q : VK} (rv : Rep K H fv v (enc x)) (rw' : Rep K H fw w (enc y)) (hC : C) (k : ∀ v' H' fp, Same H H' → Rep K H' fp v' (enc z) → fp.Nodup → (∀ a ∈ fp, H a = none) → Q v' H') :
    ∃ i j, v = .int i ∧ w = .int j ∧ i = x ∧ j = y ∧ C ∧ Q (.int z) H :=
  ⟨x, y, rv.int_inv.1, rw'.int_inv.1, rfl, rfl, hC, k _ H [] (Same.refl _) (.int z) List.nodup_nil (fun _ h => nomatch h)⟩
section
variable {x y : Int} {kx ky : Kd}
theorem ex_opI {op : Operator} {g : Int → Int → Int} (ho : OpR X (binaryOp op) (rI0 fun i j => .int (g i j))) (ha : EX X G a pa x kx) (hb : EX X G b pb y ky) (c1 : Cmb pa pb p) : EX X G (.BinOp a op b pos) p (g x y) .frs :=
  ex_op2 (pr := True) ho ha hb (fun _ H fv fw v w Q rv rw' k => ⟨x, y, rv.int_inv.1, rw'.int_inv.1, k _ H [] (Same.refl _) (.int (g x y)) List.nodup_nil (fun _ h => nomatch h)⟩) c1 (.l p)
theorem ex_opIC {op : Operator} {g : Int → Int → Int} {C : Int → Int → Prop} (ho : OpR X (binaryOp op) (rI C fun i j => .int (g i j))) (ha : EX X G a pa x kx) (hb : EX X G b pb y ky) {p1 : Prop} (c1 : Cmb pa pb p1) (c2 : Cmb p1 (C x y) p) : EX X G (.BinOp a op b pos) p (g x y) .frs :=
  ex_op2 ho ha hb (fun hC H fv fw v w Q rv rw' k => ⟨x, y, rv.int_inv.1, rw'.int_inv.1, hC, k _ H [] (Same.refl _) (.int (g x y)) List.nodup_nil (fun _ h => nomatch h)⟩) c1 c2
theorem ex_add (ha : EX X G a pa x kx) (hb : EX X G b pb y ky) (c1 : Cmb pa pb p) : EX X G (.BinOp a .Add b pos) p (x + y) .frs := ex_opI op_add ha hb c1
theorem ex_sub (ha : EX X G a pa x kx) (hb : EX X G b pb y ky) (c1 : Cmb pa pb p) : EX X G (.BinOp a .Sub b pos) p (x - y) .frs := ex_opI op_sub ha hb c1
/-- the size of a product: below two million bits -/
def MulOk (i j : Int) : Prop := i.natAbs.log2 + j.natAbs.log2 < 100000000
theorem MulOk.ok {i j : Int} (h : MulOk i j) : IntMulOk i j := by
  have b : ∀ x : Int, Builtin.Int.intBits x ≤ x.natAbs.log2 + 1 := fun x => by
    unfold Builtin.Int.intBits
    split <;> omega
  have h1 := b i
  have h2 := b j
  have h3 : i.natAbs.log2 + j.natAbs.log2 < 100000000 := h
  have e : bitsLine = 134217728 := by decide
  unfold IntMulOk
  intro z
  rw [Bool.and_eq_true] at z
  have z2 := z.2
  unfold Builtin.Int.intTooBig at z2
  have z3 := of_decide_eq_true z2
  rw [e] at z3
  omega
theorem op_mulB : OpR X (binaryOp .Mult) (rI MulOk fun i j => .int (i * j)) := opI fun _ _ _ _ _ _ _ hc q => PyProof.Rows.mul_int q hc.ok
theorem ex_mul (ha : EX X G a pa x kx) (hb : EX X G b pb y ky) {p1 : Prop} (c1 : Cmb pa pb p1) (c2 : Cmb p1 (MulOk x y) p) : EX X G (.BinOp a .Mult b pos) p (x * y) .frs := ex_opIC op_mulB ha hb c1 c2
/-- // by a positive divisor below 2 ^ 9000 -/
def DivOk (_ j : Int) : Prop := 0 < j ∧ j.natAbs.log2 < 9000
theorem ex_div (ha : EX X G a pa x kx) (hb : EX X G b pb y ky) {p1 : Prop} (c1 : Cmb pa pb p1) (c2 : Cmb p1 (DivOk x y) p) : EX X G (.BinOp a .FloorDiv b pos) p (x / y) .frs := ex_opIC (C := CDivW) op_fdivW ha hb c1 c2
theorem ex_mod (ha : EX X G a pa x kx) (hb : EX X G b pb y ky) {p1 : Prop} (c1 : Cmb pa pb p1) (c2 : Cmb p1 (0 < y) p) : EX X G (.BinOp a .Mod b pos) p (x % y) .frs := ex_opIC (C := fun _ j => 0 < j) op_mod ha hb c1 c2
def PowOk (i j : Int) : Prop := 0 ≤ j ∧ (Builtin.Int.intBits i : Int) * j ≤ 2 ^ 27
theorem op_powB : OpR X (binaryOp .Pow) (rI PowOk fun i j => .int (i ^ j.toNat)) := opI fun _ _ _ _ _ _ _ hc q => PyProof.Rows.pow_int hc.1 hc.2 q
theorem ex_pow (ha : EX X G a pa x kx) (hb : EX X G b pb y ky) {p1 : Prop} (c1 : Cmb pa pb p1) (c2 : Cmb p1 (PowOk x y) p) : EX X G (.BinOp a .Pow b pos) p (x ^ y.toNat) .frs := ex_opIC (C := PowOk) (g := fun i j => i ^ j.toNat) op_powB ha hb c1 c2
theorem ex_shl (ha : EX X G a pa x kx) (hb : EX X G b pb y ky) {p1 : Prop} (c1 : Cmb pa pb p1) (c2 : Cmb p1 (CPow x y) p) : EX X G (.BinOp a .LShift b pos) p (x * 2 ^ y.toNat) .frs := ex_opIC (C := CPow) (g := fun i j => i * 2 ^ j.toNat) op_shl ha hb c1 c2
theorem ex_shr (ha : EX X G a pa x kx) (hb : EX X G b pb y ky) {p1 : Prop} (c1 : Cmb pa pb p1) (c2 : Cmb p1 (0 ≤ y) p) : EX X G (.BinOp a .RShift b pos) p (x / 2 ^ y.toNat) .frs := ex_opIC (C := fun _ j => 0 ≤ j) (g := fun i j => i / 2 ^ j.toNat) op_shr ha hb c1 c2
theorem ex_and (ha : EX X G a pa x kx) (hb : EX X G b pb y ky) (c1 : Cmb pa pb p) : EX X G (.BinOp a .BitAnd b pos) p (Builtin.bitAnd x y) .frs := ex_opI op_and ha hb c1
theorem ex_xor (ha : EX X G a pa x kx) (hb : EX X G b pb y ky) (c1 : Cmb pa pb p) : EX X G (.BinOp a .BitXor b pos) p (Builtin.bitXor x y) .frs := ex_opI op_xor ha hb c1
theorem ex_neg (ha : EX X G a p x kx) : EX X G (.UnaryOp .USub a pos) p (-x) .frs := by
  obtain ⟨ta, a1, a2⟩ := ha
  exact ⟨_, pe_un un_neg a1, fun σ H F Q R hp k => a2 σ H F _ R hp fun v H1 fp s1 r1 _ => ⟨x, r1.int_inv.1, k _ H1 [] s1 (.int _) KdOk.nil⟩⟩
end

/-! ### arguments -/
theorem ax_nil {k : Kd} : AX X G [] True [] k := ⟨_, pa_nil, fun _ H _ Q _ _ h => h [] H [] (Same.refl _) .nil KdOk.nil⟩
theorem ax_cons {t : Type} [Enc t] {x : t} {ds : List D} {k : Kd} (he : EX X G e pa x k) (hr : AX X G es pb ds k) (c : Cmb pa pb p) (hs : starEach (e :: es) X.env = (false, eval e X.env) :: starEach es X.env := by rfl) : AX X G (e :: es) p (enc x :: ds) k := by
  obtain ⟨te, a1, a2⟩ := he
  obtain ⟨ta, b1, b2⟩ := hr
  refine ⟨_, pa_cons a1 b1 hs, fun σ H F Q R hp h => ?_⟩
  obtain ⟨hpa, hpb⟩ := c.out hp
  refine a2 σ H F _ R hpa fun v H1 fp s1 r1 k1 => ?_
  refine b2 σ H1 F _ (R.same s1) hpb fun vs H2 fp2 s2 r2 k2 => ?_
  refine h _ _ (fp ++ fp2) (s1.trans s2) (.cons (r1.same s2) r2) ?_
  cases k with
  | any => trivial
  | shr => exact fun a ha => (List.mem_append.mp ha).elim (k1 a) fun h => (k2 a h).imp s1.free id
  | frs =>
    refine ⟨List.nodup_append.mpr ⟨k1.1, k2.1, fun a ha b hb e => ?_⟩, fun a ha => (List.mem_append.mp ha).elim (k1.2 a) fun h => s1.free (k2.2 a h)⟩
    subst e
    exact r1.there ha (k2.2 a hb)
/-! ### displays -/
theorem KdOk.top {k : Kd} {O : Addr → Prop} {H H1 : Hp} {fp : List Addr} {l : Addr} (s : Same H H1) (hl : H1 l = none) (ht : ∀ a ∈ fp, H1 a ≠ none) (h : KdOk k O H fp) : KdOk k O H (l :: fp) := by
  cases k with
  | any => trivial
  | shr =>
    intro a ha
    rcases List.mem_cons.mp ha with e | e
    · subst e; exact .inl (s.free hl)
    · exact h a e
  | frs =>
    refine ⟨List.nodup_cons.mpr ⟨fun z => ht l z hl, h.1⟩, fun a ha => ?_⟩
    rcases List.mem_cons.mp ha with e | e
    · subst e; exact s.free hl
    · exact h.2 a e
theorem ex_list {t : Type} [Enc t] {xs : List t} {ds : List D} {k : Kd} (h : AX X G es p ds k) (hx : enc xs = .lst ds := by rfl) (hl : Nat.ble ds.length 1000 = true := by rfl) : EX X G (.List es pos) p xs k := by
  obtain ⟨ta, a1, a2⟩ := h
  refine ⟨_, pe_lst a1, fun σ H F Q R hp q => a2 σ H F _ R hp fun vs H1 fp s1 r1 k1 => ⟨by rw [r1.length]; exact Nat.le_trans (Nat.ble_eq.mp hl) (by rw [sizeLine_eq]; decide), fun l hn => ?_⟩⟩
  refine q _ _ (l :: fp) (s1.trans (Same.upd hn)) (by rw [hx]; exact .lst upd_same (r1.same (Same.upd hn))) (KdOk.top s1 hn (fun a ha => r1.there ha) k1)
theorem ex_tup {t : Type} [Enc t] {x : t} {ds : List D} {k : Kd} {k1} (h : AX X G es p ds k) (hx : enc x = .tup ds := by rfl) (hl : Nat.ble ds.length 1000 = true := by rfl) : EX X G (.Tuple es k1 pos) p x k := by
  obtain ⟨ta, a1, a2⟩ := h
  refine ⟨_, pe_tup a1, fun σ H F Q R hp q => a2 σ H F _ R hp fun vs H1 fp s1 r1 k1 => ⟨by rw [r1.length]; exact Nat.le_trans (Nat.ble_eq.mp hl) (by rw [sizeLine_eq]; decide), fun l hn => ?_⟩⟩
  refine q _ _ fp (s1.trans (Same.upd hn)) (by rw [hx]; exact .tup (SqT.of upd_same) (r1.same (Same.upd hn))) ?_
  exact k1

/-! ### comparisons of ints -/
theorem CMP.ex {z : Bool} (h : CMP X G e p z) : EX X G e p z .frs := by
  obtain ⟨te, h1, _, h2⟩ := h
  exact ⟨te, h1, fun σ H F Q R hp k => h2 σ H F Q R hp fun H' s => k _ H' [] s (.bl z) KdOk.nil⟩
theorem CMP.tx {z : Bool} (h : CMP X G e p z) : TX X G e p z := by
  obtain ⟨te, _, h1, h2⟩ := h
  exact ⟨_, h1, fun σ H F Q R hp k => h2 σ H F _ R hp fun H' s => ⟨z, rfl, k H' s⟩⟩
theorem cm2 {op : CmpOp} {r : R2} {t u : Type} [Enc t] [Enc u] {x : t} {y : u} {z : Bool} {kx ky : Kd} (ho : OpR X (compareOp op) r) (ha : EX X G a pa x kx) (hb : EX X G b pb y ky)
    (h : pr → ∀ H fv fw v w (Q : VK), Rep X.K H fv v (enc x) → Rep X.K H fw w (enc y) → Q (.bl z) H → r v w H Q)
    {p1 : Prop} (c1 : Cmb pa pb p1) (c2 : Cmb p1 pr p) (hm : behindInMarks op b = false := by first | exact nomark _ | rfl) : CMP X G (.Compare a [op] [b] pos) p z := by
  obtain ⟨ta, a1, a2⟩ := ha
  obtain ⟨tb, b1, b2⟩ := hb
  refine ⟨_, pe_cmpR ho a1 b1 hm, pt_cmpR ho a1 b1 hm, fun σ H F Q R hp k => ?_⟩
  obtain ⟨hp1, hpr⟩ := c2.out hp
  obtain ⟨hpa, hpb⟩ := c1.out hp1
  refine a2 σ H F _ R hpa fun v H1 fp s1 r1 _ => ?_
  refine b2 σ H1 F _ (R.same s1) hpb fun w H2 fp2 s2 r2 _ => ?_
  exact h hpr H2 _ _ v w Q (r1.same s2) r2 (k H2 (s1.trans s2))
/-- a < b < c -/
theorem cmChain {op op' : CmpOp} {g g' : Int → Int → Bool} {x y z : Int} {kx ky kz : Kd} {pc : Prop} (ho : OpR X (compareOp op) (rI0 fun i j => .bl (g i j))) (ho' : OpR X (compareOp op') (rI0 fun i j => .bl (g' i j)))
    (ha : EX X G a pa x kx) (hb : EX X G b pb y ky) (hc : EX X G c pc z kz) {p1 : Prop} (c1 : Cmb pa pb p1) (c2 : CmbIf (g x y) p1 pc p)
    (hm : lastMarks [op, op'] [b, c] = false := by rfl) : CMP X G (.Compare a [op, op'] [b, c] pos) p (g x y && g' y z) := by
  obtain ⟨ta, a1, a2⟩ := ha
  obtain ⟨tb, b1, b2⟩ := hb
  obtain ⟨tc, d1, d2⟩ := hc
  refine ⟨_, pe_chain ho ho' a1 b1 d1 hm, pt_chain ho ho' a1 b1 d1 hm, fun σ H F Q R hp k => ?_⟩
  obtain ⟨hp1, hpc⟩ := c2.out hp
  obtain ⟨hpa, hpb⟩ := c1.out hp1
  refine a2 σ H F _ R hpa fun v H1 fp s1 r1 _ => ?_
  refine b2 σ H1 F _ (R.same s1) hpb fun w H2 fp2 s2 r2 _ => ?_
  refine ⟨x, y, r1.int_inv.1, r2.int_inv.1, g x y, rfl, ?_⟩
  cases hg : g x y with
  | false => rw [hg] at k; exact iteF (k H2 (s1.trans s2))
  | true =>
    rw [hg] at k hpc
    exact iteT (d2 σ H2 F _ ((R.same s1).same s2) (hpc rfl) fun u H3 fp3 s3 r3 _ => ⟨y, z, r2.int_inv.1, r3.int_inv.1, k H3 (s1.trans (s2.trans s3))⟩)
section
variable {x y : Int} {kx ky : Kd}
theorem cm_lt (ha : EX X G a pa x kx) (hb : EX X G b pb y ky) (c1 : Cmb pa pb p) : CMP X G (.Compare a [.Lt] [b] pos) p (decide (x < y)) :=
  cm2 (pr := True) op_lt ha hb (fun _ H fv fw v w Q rv rw' k => ⟨x, y, rv.int_inv.1, rw'.int_inv.1, k⟩) c1 (.l p)
theorem cm_le (ha : EX X G a pa x kx) (hb : EX X G b pb y ky) (c1 : Cmb pa pb p) : CMP X G (.Compare a [.LtE] [b] pos) p (decide (x ≤ y)) :=
  cm2 (pr := True) op_le ha hb (fun _ H fv fw v w Q rv rw' k => ⟨x, y, rv.int_inv.1, rw'.int_inv.1, k⟩) c1 (.l p)
theorem cm_gt (ha : EX X G a pa x kx) (hb : EX X G b pb y ky) (c1 : Cmb pa pb p) : CMP X G (.Compare a [.Gt] [b] pos) p (decide (y < x)) :=
  cm2 (pr := True) op_gt ha hb (fun _ H fv fw v w Q rv rw' k => ⟨x, y, rv.int_inv.1, rw'.int_inv.1, k⟩) c1 (.l p)
theorem cm_ge (ha : EX X G a pa x kx) (hb : EX X G b pb y ky) (c1 : Cmb pa pb p) : CMP X G (.Compare a [.GtE] [b] pos) p (decide (y ≤ x)) :=
  cm2 (pr := True) op_ge ha hb (fun _ H fv fw v w Q rv rw' k => ⟨x, y, rv.int_inv.1, rw'.int_inv.1, k⟩) c1 (.l p)
end
end
end BW

set_option Elab.async false
set_option linter.all false
set_option maxRecDepth 100000
set_option maxHeartbeats 4000000
/-! Expressions, further: ==, tests, places, calls of built-ins. -/
namespace BW
open PySem L2

/-! ### == of data -/
mutual
def pyd : D → PyData
  | .non => .none
  | .bl b => .bool b
  | .int i => .int i
  | .str x => .str x
  | .lst xs => .list (pyds xs)
  | .tup xs => .tuple (pyds xs)
  | .scr xs => .list (xs.map PyData.int)
  | .obj _ _ _ _ => .dict []
  | .dic _ _ => .dict []
def pyds : List D → List PyData
  | [] => []
  | x :: xs => pyd x :: pyds xs
end
theorem dps_ints {K : PySem.W.Frag} {H : Hp} : ∀ xs : List Int, DpAll K H (xs.map V.int) (xs.map PyData.int)
  | [] => .nil
  | x :: xs => .cons (.int x) (dps_ints xs)
mutual
theorem Rep.dp0 {K : PySem.W.Frag} {H : Hp} : ∀ {fp : List Addr} {v : V} {d : D}, Rep K H fp v d → (pyd d).canLay0 = true → Dp K H v (pyd d)
  | _, _, _, .non, _ => .non
  | _, _, _, .bl b, _ => .bl b
  | _, _, _, .int i, _ => .int i
  | _, _, _, .str x, _ => .str x
  | _, _, _, .lst h r, c => .lst (SqL.of h) (Reps.dp0 r c)
  | _, _, _, .scr h, _ => .lst h.sq (dps_ints _)
  | _, _, _, .tup h r, c => .tup h (Reps.dp0 r c)
  | _, _, _, .obj _ _ _ _, c => by cases c
  | _, _, _, .dic _ _ _, c => by cases c
theorem Reps.dp0 {K : PySem.W.Frag} {H : Hp} : ∀ {fp : List Addr} {vs : List V} {ds : List D}, Reps K H fp vs ds → PyData.canLayAll0 (pyds ds) = true → DpAll K H vs (pyds ds)
  | _, _, _, .nil, _ => .nil
  | _, _, _, .cons h r, c => .cons (Rep.dp0 h (Bool.and_eq_true_iff.mp c).1) (Reps.dp0 r (Bool.and_eq_true_iff.mp c).2)
end
theorem Rep.dp {K : PySem.W.Frag} {H : Hp} {fp : List Addr} {v : V} {d : D} (r : Rep K H fp v d) (h : SeqAt.shaped (pyd d) = true) : Dp K H v (pyd d) := r.dp0 (SeqAt.canLay_of_shaped h)
class PyEq (t : Type) [Enc t] [DecidableEq t] where
  dep : Nat
  good : t → Bool
  eq : ∀ x y : t, PyData.eqv (pyd (enc x)) (pyd (enc y)) = decide (x = y)
  lay : ∀ x : t, good x = true → (pyd (enc x)).canLay0 = true
  dp : ∀ x : t, (pyd (enc x)).depth ≤ dep
/-- without texts: nothing is asked -/
class PyEq0 (t : Type) [Enc t] [DecidableEq t] [PyEq t] : Prop where
  all : ∀ x : t, PyEq.good x = true
instance : PyEq Int := ⟨0, fun _ => true, fun x y => by show (x == y) = _; rw [Bool.beq_eq_decide_eq], fun _ _ => rfl, fun _ => Nat.le_refl _⟩
instance : PyEq0 Int := ⟨fun _ => rfl⟩
instance : PyEq Bool := ⟨0, fun _ => true, fun x y => by show (x == y) = _; rw [Bool.beq_eq_decide_eq], fun _ _ => rfl, fun _ => Nat.le_refl _⟩
instance : PyEq0 Bool := ⟨fun _ => rfl⟩
instance : PyEq Str := ⟨0, fun x => PySem.PyData.strOk x, fun x y => by show (x == y) = _; rw [Bool.beq_eq_decide_eq], fun x h => h, fun _ => Nat.le_refl _⟩
instance : PyEq Unit := ⟨0, fun _ => true, fun x y => by show true = _; exact (decide_eq_true rfl).symm, fun _ _ => rfl, fun _ => Nat.le_refl _⟩
instance : PyEq0 Unit := ⟨fun _ => rfl⟩

theorem eqvAll_map {t : Type} [Enc t] [DecidableEq t] [PyEq t] : ∀ xs ys : List t, PyData.eqvAll (pyds (xs.map enc)) (pyds (ys.map enc)) = decide (xs = ys)
  | [], [] => rfl
  | [], y :: ys => rfl
  | x :: xs, [] => rfl
  | x :: xs, y :: ys => by
    show (PyData.eqv (pyd (enc x)) (pyd (enc y)) && PyData.eqvAll (pyds (xs.map enc)) (pyds (ys.map enc))) = _
    rw [PyEq.eq, eqvAll_map xs ys]
    simp only [List.cons.injEq]
    exact (Bool.decide_and _ _).symm
theorem layAll_map {t : Type} [Enc t] [DecidableEq t] [PyEq t] : ∀ xs : List t, xs.all PyEq.good = true → PyData.canLayAll0 (pyds (xs.map enc)) = true
  | [], _ => rfl
  | x :: xs, h => by
    simp only [List.all_cons, Bool.and_eq_true] at h
    show ((pyd (enc x)).canLay0 && PyData.canLayAll0 (pyds (xs.map enc))) = true
    rw [PyEq.lay x h.1, layAll_map xs h.2]; rfl
theorem depAll_map {t : Type} [Enc t] [DecidableEq t] [PyEq t] : ∀ xs : List t, PyData.depthAll (pyds (xs.map enc)) ≤ PyEq.dep t
  | [] => Nat.zero_le _
  | x :: xs => by
    show max (PyData.depth (pyd (enc x))) (PyData.depthAll (pyds (xs.map enc))) ≤ _
    have h1 := PyEq.dp x
    have h2 := depAll_map xs
    omega
instance {t : Type} [Enc t] [DecidableEq t] [PyEq t] : PyEq (List t) := ⟨PyEq.dep t + 1, fun xs => xs.all PyEq.good, fun xs ys => eqvAll_map xs ys, fun xs h => layAll_map xs h, fun xs => by
  show PyData.depthAll (pyds (xs.map enc)) + 1 ≤ _
  have := depAll_map xs
  omega⟩
instance {t : Type} [Enc t] [DecidableEq t] [PyEq t] [PyEq0 t] : PyEq0 (List t) := ⟨fun xs => List.all_eq_true.mpr fun x _ => PyEq0.all x⟩
instance {a b : Type} [Enc a] [Enc b] [DecidableEq a] [DecidableEq b] [PyEq a] [PyEq b] : PyEq (a × b) := ⟨max (PyEq.dep a) (PyEq.dep b) + 1, fun x => PyEq.good x.1 && PyEq.good x.2, fun x y => by
  show (PyData.eqv (pyd (enc x.1)) (pyd (enc y.1)) && (PyData.eqv (pyd (enc x.2)) (pyd (enc y.2)) && true)) = _
  rw [PyEq.eq, PyEq.eq, Bool.and_true]
  cases x; cases y
  simp only [Prod.mk.injEq]
  exact (Bool.decide_and _ _).symm, fun x h => by
  simp only [Bool.and_eq_true] at h
  show ((pyd (enc x.1)).canLay0 && ((pyd (enc x.2)).canLay0 && true)) = true
  rw [PyEq.lay _ h.1, PyEq.lay _ h.2]; rfl, fun x => by
  show max (PyData.depth (pyd (enc x.1))) (max (PyData.depth (pyd (enc x.2))) 0) + 1 ≤ _
  have h1 := PyEq.dp x.1
  have h2 := PyEq.dp x.2
  omega⟩
instance {a b : Type} [Enc a] [Enc b] [DecidableEq a] [DecidableEq b] [PyEq a] [PyEq b] [PyEq0 a] [PyEq0 b] : PyEq0 (a × b) := ⟨fun x => by
  show (PyEq.good x.1 && PyEq.good x.2) = true
  rw [PyEq0.all, PyEq0.all]; rfl⟩
instance {a b c : Type} [DecidableEq a] [DecidableEq b] [DecidableEq c] : DecidableEq (T3 a b c) := fun x y => by
  cases x; cases y
  rw [T3.mk.injEq]
  infer_instance
instance {a b c : Type} [Enc a] [Enc b] [Enc c] [DecidableEq a] [DecidableEq b] [DecidableEq c] [PyEq a] [PyEq b] [PyEq c] : PyEq (T3 a b c) := ⟨max (max (PyEq.dep a) (PyEq.dep b)) (PyEq.dep c) + 1, fun x => PyEq.good x.a && PyEq.good x.b && PyEq.good x.c, fun x y => by
  show (PyData.eqv (pyd (enc x.a)) (pyd (enc y.a)) && (PyData.eqv (pyd (enc x.b)) (pyd (enc y.b)) && (PyData.eqv (pyd (enc x.c)) (pyd (enc y.c)) && (true)))) = _
  rw [PyEq.eq, PyEq.eq, PyEq.eq, Bool.and_true]
  cases x; cases y
  simp only [T3.mk.injEq, Bool.decide_and], fun x h => by
  simp only [Bool.and_eq_true] at h
  show ((pyd (enc x.a)).canLay0 && ((pyd (enc x.b)).canLay0 && ((pyd (enc x.c)).canLay0 && true))) = true
  simp only [Bool.and_eq_true, and_true]
  exact ⟨PyEq.lay _ h.1.1, PyEq.lay _ h.1.2, PyEq.lay _ h.2⟩, fun x => by
  show max (PyData.depth (pyd (enc x.a))) (max (PyData.depth (pyd (enc x.b))) (max (PyData.depth (pyd (enc x.c))) (0))) + 1 ≤ _
  have ha := PyEq.dp x.a
  have hb := PyEq.dp x.b
  have hc := PyEq.dp x.c
  omega⟩
instance {a b c : Type} [Enc a] [Enc b] [Enc c] [DecidableEq a] [DecidableEq b] [DecidableEq c] [PyEq a] [PyEq b] [PyEq c] [PyEq0 a] [PyEq0 b] [PyEq0 c] : PyEq0 (T3 a b c) := ⟨fun x => by
  show (PyEq.good x.a && PyEq.good x.b && PyEq.good x.c) = true
  simp only [PyEq0.all, Bool.and_true]⟩
instance {a b c d : Type} [DecidableEq a] [DecidableEq b] [DecidableEq c] [DecidableEq d] : DecidableEq (T4 a b c d) := fun x y => by
  cases x; cases y
  rw [T4.mk.injEq]
  infer_instance
instance {a b c d : Type} [Enc a] [Enc b] [Enc c] [Enc d] [DecidableEq a] [DecidableEq b] [DecidableEq c] [DecidableEq d] [PyEq a] [PyEq b] [PyEq c] [PyEq d] : PyEq (T4 a b c d) := ⟨max (max (max (PyEq.dep a) (PyEq.dep b)) (PyEq.dep c)) (PyEq.dep d) + 1, fun x => PyEq.good x.a && PyEq.good x.b && PyEq.good x.c && PyEq.good x.d, fun x y => by
  show (PyData.eqv (pyd (enc x.a)) (pyd (enc y.a)) && (PyData.eqv (pyd (enc x.b)) (pyd (enc y.b)) && (PyData.eqv (pyd (enc x.c)) (pyd (enc y.c)) && (PyData.eqv (pyd (enc x.d)) (pyd (enc y.d)) && (true))))) = _
  rw [PyEq.eq, PyEq.eq, PyEq.eq, PyEq.eq, Bool.and_true]
  cases x; cases y
  simp only [T4.mk.injEq, Bool.decide_and], fun x h => by
  simp only [Bool.and_eq_true] at h
  show ((pyd (enc x.a)).canLay0 && ((pyd (enc x.b)).canLay0 && ((pyd (enc x.c)).canLay0 && ((pyd (enc x.d)).canLay0 && true)))) = true
  simp only [Bool.and_eq_true, and_true]
  exact ⟨PyEq.lay _ h.1.1.1, PyEq.lay _ h.1.1.2, PyEq.lay _ h.1.2, PyEq.lay _ h.2⟩, fun x => by
  show max (PyData.depth (pyd (enc x.a))) (max (PyData.depth (pyd (enc x.b))) (max (PyData.depth (pyd (enc x.c))) (max (PyData.depth (pyd (enc x.d))) (0)))) + 1 ≤ _
  have ha := PyEq.dp x.a
  have hb := PyEq.dp x.b
  have hc := PyEq.dp x.c
  have hd := PyEq.dp x.d
  omega⟩
instance {a b c d : Type} [Enc a] [Enc b] [Enc c] [Enc d] [DecidableEq a] [DecidableEq b] [DecidableEq c] [DecidableEq d] [PyEq a] [PyEq b] [PyEq c] [PyEq d] [PyEq0 a] [PyEq0 b] [PyEq0 c] [PyEq0 d] : PyEq0 (T4 a b c d) := ⟨fun x => by
  show (PyEq.good x.a && PyEq.good x.b && PyEq.good x.c && PyEq.good x.d) = true
  simp only [PyEq0.all, Bool.and_true]⟩
instance {a b c d e : Type} [DecidableEq a] [DecidableEq b] [DecidableEq c] [DecidableEq d] [DecidableEq e] : DecidableEq (T5 a b c d e) := fun x y => by
  cases x; cases y
  rw [T5.mk.injEq]
  infer_instance
instance {a b c d e : Type} [Enc a] [Enc b] [Enc c] [Enc d] [Enc e] [DecidableEq a] [DecidableEq b] [DecidableEq c] [DecidableEq d] [DecidableEq e] [PyEq a] [PyEq b] [PyEq c] [PyEq d] [PyEq e] : PyEq (T5 a b c d e) := ⟨max (max (max (max (PyEq.dep a) (PyEq.dep b)) (PyEq.dep c)) (PyEq.dep d)) (PyEq.dep e) + 1, fun x => PyEq.good x.a && PyEq.good x.b && PyEq.good x.c && PyEq.good x.d && PyEq.good x.e, fun x y => by
  show (PyData.eqv (pyd (enc x.a)) (pyd (enc y.a)) && (PyData.eqv (pyd (enc x.b)) (pyd (enc y.b)) && (PyData.eqv (pyd (enc x.c)) (pyd (enc y.c)) && (PyData.eqv (pyd (enc x.d)) (pyd (enc y.d)) && (PyData.eqv (pyd (enc x.e)) (pyd (enc y.e)) && (true)))))) = _
  rw [PyEq.eq, PyEq.eq, PyEq.eq, PyEq.eq, PyEq.eq, Bool.and_true]
  cases x; cases y
  simp only [T5.mk.injEq, Bool.decide_and], fun x h => by
  simp only [Bool.and_eq_true] at h
  show ((pyd (enc x.a)).canLay0 && ((pyd (enc x.b)).canLay0 && ((pyd (enc x.c)).canLay0 && ((pyd (enc x.d)).canLay0 && ((pyd (enc x.e)).canLay0 && true))))) = true
  simp only [Bool.and_eq_true, and_true]
  exact ⟨PyEq.lay _ h.1.1.1.1, PyEq.lay _ h.1.1.1.2, PyEq.lay _ h.1.1.2, PyEq.lay _ h.1.2, PyEq.lay _ h.2⟩, fun x => by
  show max (PyData.depth (pyd (enc x.a))) (max (PyData.depth (pyd (enc x.b))) (max (PyData.depth (pyd (enc x.c))) (max (PyData.depth (pyd (enc x.d))) (max (PyData.depth (pyd (enc x.e))) (0))))) + 1 ≤ _
  have ha := PyEq.dp x.a
  have hb := PyEq.dp x.b
  have hc := PyEq.dp x.c
  have hd := PyEq.dp x.d
  have he := PyEq.dp x.e
  omega⟩
instance {a b c d e : Type} [Enc a] [Enc b] [Enc c] [Enc d] [Enc e] [DecidableEq a] [DecidableEq b] [DecidableEq c] [DecidableEq d] [DecidableEq e] [PyEq a] [PyEq b] [PyEq c] [PyEq d] [PyEq e] [PyEq0 a] [PyEq0 b] [PyEq0 c] [PyEq0 d] [PyEq0 e] : PyEq0 (T5 a b c d e) := ⟨fun x => by
  show (PyEq.good x.a && PyEq.good x.b && PyEq.good x.c && PyEq.good x.d && PyEq.good x.e) = true
  simp only [PyEq0.all, Bool.and_true]⟩
instance {a b c d e f : Type} [DecidableEq a] [DecidableEq b] [DecidableEq c] [DecidableEq d] [DecidableEq e] [DecidableEq f] : DecidableEq (T6 a b c d e f) := fun x y => by
  cases x; cases y
  rw [T6.mk.injEq]
  infer_instance
instance {a b c d e f : Type} [Enc a] [Enc b] [Enc c] [Enc d] [Enc e] [Enc f] [DecidableEq a] [DecidableEq b] [DecidableEq c] [DecidableEq d] [DecidableEq e] [DecidableEq f] [PyEq a] [PyEq b] [PyEq c] [PyEq d] [PyEq e] [PyEq f] : PyEq (T6 a b c d e f) := ⟨max (max (max (max (max (PyEq.dep a) (PyEq.dep b)) (PyEq.dep c)) (PyEq.dep d)) (PyEq.dep e)) (PyEq.dep f) + 1, fun x => PyEq.good x.a && PyEq.good x.b && PyEq.good x.c && PyEq.good x.d && PyEq.good x.e && PyEq.good x.f, fun x y => by
  show (PyData.eqv (pyd (enc x.a)) (pyd (enc y.a)) && (PyData.eqv (pyd (enc x.b)) (pyd (enc y.b)) && (PyData.eqv (pyd (enc x.c)) (pyd (enc y.c)) && (PyData.eqv (pyd (enc x.d)) (pyd (enc y.d)) && (PyData.eqv (pyd (enc x.e)) (pyd (enc y.e)) && (PyData.eqv (pyd (enc x.f)) (pyd (enc y.f)) && (true))))))) = _
  rw [PyEq.eq, PyEq.eq, PyEq.eq, PyEq.eq, PyEq.eq, PyEq.eq, Bool.and_true]
  cases x; cases y
  simp only [T6.mk.injEq, Bool.decide_and], fun x h => by
  simp only [Bool.and_eq_true] at h
  show ((pyd (enc x.a)).canLay0 && ((pyd (enc x.b)).canLay0 && ((pyd (enc x.c)).canLay0 && ((pyd (enc x.d)).canLay0 && ((pyd (enc x.e)).canLay0 && ((pyd (enc x.f)).canLay0 && true)))))) = true
  simp only [Bool.and_eq_true, and_true]
  exact ⟨PyEq.lay _ h.1.1.1.1.1, PyEq.lay _ h.1.1.1.1.2, PyEq.lay _ h.1.1.1.2, PyEq.lay _ h.1.1.2, PyEq.lay _ h.1.2, PyEq.lay _ h.2⟩, fun x => by
  show max (PyData.depth (pyd (enc x.a))) (max (PyData.depth (pyd (enc x.b))) (max (PyData.depth (pyd (enc x.c))) (max (PyData.depth (pyd (enc x.d))) (max (PyData.depth (pyd (enc x.e))) (max (PyData.depth (pyd (enc x.f))) (0)))))) + 1 ≤ _
  have ha := PyEq.dp x.a
  have hb := PyEq.dp x.b
  have hc := PyEq.dp x.c
  have hd := PyEq.dp x.d
  have he := PyEq.dp x.e
  have hf := PyEq.dp x.f
  omega⟩
instance {a b c d e f : Type} [Enc a] [Enc b] [Enc c] [Enc d] [Enc e] [Enc f] [DecidableEq a] [DecidableEq b] [DecidableEq c] [DecidableEq d] [DecidableEq e] [DecidableEq f] [PyEq a] [PyEq b] [PyEq c] [PyEq d] [PyEq e] [PyEq f] [PyEq0 a] [PyEq0 b] [PyEq0 c] [PyEq0 d] [PyEq0 e] [PyEq0 f] : PyEq0 (T6 a b c d e f) := ⟨fun x => by
  show (PyEq.good x.a && PyEq.good x.b && PyEq.good x.c && PyEq.good x.d && PyEq.good x.e && PyEq.good x.f) = true
  simp only [PyEq0.all, Bool.and_true]⟩
section
variable {X : Cx} {G : Gam} {N : List Str} {sc : Scope} {e a b c : Expr} {es : List Expr} {p pa pb pr q : Prop} {pos : Pos}
theorem shaped_of {t : Type} [Enc t] [DecidableEq t] [PyEq t] {x : t} (h : PyEq.good x = true) (hd : PyEq.dep t ≤ 64) : SeqAt.shaped (pyd (enc x)) = true := by
  unfold SeqAt.shaped
  rw [PyEq.lay x h, Bool.true_and]
  exact decide_eq_true (Nat.le_trans (PyEq.dp x) hd)
/-- there is room for == -/
theorem cm_eqG {t : Type} [Enc t] [DecidableEq t] [PyEq t] {x y : t} {kx ky : Kd} (hu : X.A.units + 64 < cLine) (ha : EX X G a pa x kx) (hb : EX X G b pb y ky) {p1 : Prop} (c1 : Cmb pa pb p1) (c2 : Cmb p1 (PyEq.good x = true ∧ PyEq.good y = true) p) (hd : PyEq.dep t ≤ 64 := by decide) :
    CMP X G (.Compare a [.Eq] [b] pos) p (decide (x = y)) :=
  cm2 (op_eqD hu) ha hb (fun hg H fv fw v w Q rv rw' k => ⟨_, _, rv.dp (shaped_of hg.1 hd), rw'.dp (shaped_of hg.2 hd), shaped_of hg.1 hd, shaped_of hg.2 hd, by rw [PyEq.eq]; exact k⟩) c1 c2
theorem cm_neG {t : Type} [Enc t] [DecidableEq t] [PyEq t] {x y : t} {kx ky : Kd} (hu : X.A.units + 64 < cLine) (ha : EX X G a pa x kx) (hb : EX X G b pb y ky) {p1 : Prop} (c1 : Cmb pa pb p1) (c2 : Cmb p1 (PyEq.good x = true ∧ PyEq.good y = true) p) (hd : PyEq.dep t ≤ 64 := by decide) :
    CMP X G (.Compare a [.NotEq] [b] pos) p (!decide (x = y)) :=
  cm2 (op_neD hu) ha hb (fun hg H fv fw v w Q rv rw' k => ⟨_, _, rv.dp (shaped_of hg.1 hd), rw'.dp (shaped_of hg.2 hd), shaped_of hg.1 hd, shaped_of hg.2 hd, by rw [PyEq.eq]; exact k⟩) c1 c2
theorem cm_eq {t : Type} [Enc t] [DecidableEq t] [PyEq t] [PyEq0 t] {x y : t} {kx ky : Kd} (hu : X.A.units + 64 < cLine) (ha : EX X G a pa x kx) (hb : EX X G b pb y ky) (c1 : Cmb pa pb p) (hd : PyEq.dep t ≤ 64 := by decide) :
    CMP X G (.Compare a [.Eq] [b] pos) p (decide (x = y)) :=
  cm2 (pr := True) (op_eqD hu) ha hb (fun _ H fv fw v w Q rv rw' k => ⟨_, _, rv.dp (shaped_of (PyEq0.all x) hd), rw'.dp (shaped_of (PyEq0.all y) hd), shaped_of (PyEq0.all x) hd, shaped_of (PyEq0.all y) hd, by rw [PyEq.eq]; exact k⟩) c1 (.l p)
theorem cm_ne {t : Type} [Enc t] [DecidableEq t] [PyEq t] [PyEq0 t] {x y : t} {kx ky : Kd} (hu : X.A.units + 64 < cLine) (ha : EX X G a pa x kx) (hb : EX X G b pb y ky) (c1 : Cmb pa pb p) (hd : PyEq.dep t ≤ 64 := by decide) :
    CMP X G (.Compare a [.NotEq] [b] pos) p (!decide (x = y)) :=
  cm2 (pr := True) (op_neD hu) ha hb (fun _ H fv fw v w Q rv rw' k => ⟨_, _, rv.dp (shaped_of (PyEq0.all x) hd), rw'.dp (shaped_of (PyEq0.all y) hd), shaped_of (PyEq0.all x) hd, shaped_of (PyEq0.all y) hd, by rw [PyEq.eq]; exact k⟩) c1 (.l p)
/-- texts (and nothing else): without a bound -/
theorem cm_eqS {x y : Str} {kx ky : Kd} (ha : EX X G a pa x kx) (hb : EX X G b pb y ky) (c1 : Cmb pa pb p) : CMP X G (.Compare a [.Eq] [b] pos) p (decide (x = y)) :=
  cm2 (pr := True) op_eq ha hb (fun _ H fv fw v w Q rv rw' k => by
    obtain ⟨rfl, _⟩ := rv.str_inv
    obtain ⟨rfl, _⟩ := rw'.str_inv
    refine ⟨rfl, ?_⟩
    rw [dec_str, Bool.beq_eq_decide_eq]; exact k) c1 (.l p)
theorem cm_neS {x y : Str} {kx ky : Kd} (ha : EX X G a pa x kx) (hb : EX X G b pb y ky) (c1 : Cmb pa pb p) : CMP X G (.Compare a [.NotEq] [b] pos) p (!decide (x = y)) :=
  cm2 (pr := True) op_ne ha hb (fun _ H fv fw v w Q rv rw' k => by
    obtain ⟨rfl, _⟩ := rv.str_inv
    obtain ⟨rfl, _⟩ := rw'.str_inv
    refine ⟨rfl, ?_⟩
    rw [dec_str, Bool.beq_eq_decide_eq]; exact k) c1 (.l p)
def D.isNon : D → Bool
  | .non => true
  | _ => false
theorem D_isNon {K : PySem.W.Frag} {H : Hp} {fp : List Addr} {v : V} {d : D} (r : Rep K H fp v d) : decide (v = .non) = d.isNon := by
  cases r <;> rfl
def isNon {t : Type} [Enc t] (x : t) : Bool := D.isNon (enc x)
theorem cm_isN {t : Type} [Enc t] {x : t} {kx : Kd} {j} {pos' : Pos} (ha : EX X G a p x kx) : CMP X G (.Compare a [.Is] [.Constant .none j pos'] pos) p (isNon x) :=
  cm2 (pr := True) (y := ()) op_isN ha ex_non (fun _ H fv fw v w Q rv rw' k => ⟨rw'.non_inv.1, by rw [D_isNon rv]; exact k⟩) (.l p) (.l p)
theorem cm_notN {t : Type} [Enc t] {x : t} {kx : Kd} {j} {pos' : Pos} (ha : EX X G a p x kx) : CMP X G (.Compare a [.IsNot] [.Constant .none j pos'] pos) p (!isNon x) :=
  cm2 (pr := True) (y := ()) op_notN ha ex_non (fun _ H fv fw v w Q rv rw' k => ⟨rw'.non_inv.1, by rw [D_isNon rv]; exact k⟩) (.l p) (.l p)

/-! ### tests -/
theorem EX.tx {b : Bool} {k : Kd} (h : EX X G e p b k) (he : ∀ whole, isTrue e X.env whole = (do let v ← whole; standAt e.pos; holding [v] (truthy v)) := by intro _; rfl) : TX X G e p b := by
  obtain ⟨te, h1, h2⟩ := h
  exact ⟨_, pt_val h1 he, fun σ H F Q R hp k => h2 σ H F _ R hp fun v H' fp s r _ => ⟨b, r.bl_inv.1, k H' s⟩⟩
theorem TX.not {b : Bool} (h : TX X G e p b) : TX X G (.UnaryOp .Not e pos) p (!b) := by
  obtain ⟨te, h1, h2⟩ := h
  exact ⟨_, pt_not h1, fun σ H F Q R hp k => h2 σ H F _ R hp fun H' s => k H' s⟩
theorem tx_of {b : Bool} (h : WX' X G e p b) : TX X G e p b := by
  obtain ⟨te, h1, h2⟩ := h
  exact ⟨_, h1.pt, h2⟩
theorem wx_and1 {b : Bool} (h : TX X G e p b) : WX' X G (.BoolOp .And [e] pos) p b := by
  obtain ⟨te, h1, h2⟩ := h
  exact ⟨_, pw_and1 h1, h2⟩
theorem wx_or1 {b : Bool} (h : TX X G e p b) : WX' X G (.BoolOp .Or [e] pos) p b := by
  obtain ⟨te, h1, h2⟩ := h
  exact ⟨_, pw_or1 h1, h2⟩
theorem wx_and {x y : Bool} {rest : List Expr} (ha : TX X G a pa x) (hb : WX' X G (.BoolOp .And (b :: rest) pos) pb y) (cc : CmbIf x pa pb p) : WX' X G (.BoolOp .And (a :: b :: rest) pos) p (x && y) := by
  obtain ⟨ta, a1, a2⟩ := ha
  obtain ⟨tb, b1, b2⟩ := hb
  refine ⟨_, pw_and a1 b1, fun σ H F Q R hp k => ?_⟩
  obtain ⟨h1, h2⟩ := cc.out hp
  refine a2 σ H F _ R h1 fun H1 s1 => ?_
  cases x with
  | false => exact iteF (k H1 s1)
  | true => exact iteT (b2 σ H1 F _ (R.same s1) (h2 rfl) fun H2 s2 => k H2 (s1.trans s2))
theorem wx_or {x y : Bool} {rest : List Expr} (ha : TX X G a pa x) (hb : WX' X G (.BoolOp .Or (b :: rest) pos) pb y) (cc : CmbIf (!x) pa pb p) : WX' X G (.BoolOp .Or (a :: b :: rest) pos) p (x || y) := by
  obtain ⟨ta, a1, a2⟩ := ha
  obtain ⟨tb, b1, b2⟩ := hb
  refine ⟨_, pw_or a1 b1, fun σ H F Q R hp k => ?_⟩
  obtain ⟨h1, h2⟩ := cc.out hp
  refine a2 σ H F _ R h1 fun H1 s1 => ?_
  cases x with
  | true => exact iteT (k H1 s1)
  | false => exact iteF (b2 σ H1 F _ (R.same s1) (h2 rfl) fun H2 s2 => k H2 (s1.trans s2))
/-! and, or, not as values -/
theorem ex_one {op} {b : Bool} {k : Kd} (h : EX X G e p b k) : EX X G (.BoolOp op [e] pos) p b k := by
  obtain ⟨te, h1, h2⟩ := h
  exact ⟨_, pe_one h1, h2⟩
theorem ex_andV {x y : Bool} {rest : List Expr} {kx ky : Kd} (ha : EX X G a pa x kx) (hb : EX X G (.BoolOp .And (b :: rest) pos) pb y ky) (cc : CmbIf x pa pb p) : EX X G (.BoolOp .And (a :: b :: rest) pos) p (x && y) .frs := by
  obtain ⟨ta, a1, a2⟩ := ha
  obtain ⟨tb, b1, b2⟩ := hb.flt
  refine ⟨_, pe_and a1 b1, fun σ H F Q R hp k => ?_⟩
  obtain ⟨h1, h2⟩ := cc.out hp
  refine a2 σ H F _ R h1 fun v H1 fp s1 r1 _ => ⟨x, r1.bl_inv.1, ?_⟩
  cases x with
  | false => exact iteF (k _ H1 [] s1 (.bl _) KdOk.nil)
  | true => exact iteT (b2 σ H1 F _ (R.same s1) (h2 rfl) fun v H2 fp s2 r2 k2 => k v H2 fp (s1.trans s2) r2 ⟨k2.1, fun a ha => s1.free (k2.2 a ha)⟩)
theorem ex_orV {x y : Bool} {rest : List Expr} {kx ky : Kd} (ha : EX X G a pa x kx) (hb : EX X G (.BoolOp .Or (b :: rest) pos) pb y ky) (cc : CmbIf (!x) pa pb p) : EX X G (.BoolOp .Or (a :: b :: rest) pos) p (x || y) .frs := by
  obtain ⟨ta, a1, a2⟩ := ha
  obtain ⟨tb, b1, b2⟩ := hb.flt
  refine ⟨_, pe_or a1 b1, fun σ H F Q R hp k => ?_⟩
  obtain ⟨h1, h2⟩ := cc.out hp
  refine a2 σ H F _ R h1 fun v H1 fp s1 r1 _ => ⟨x, r1.bl_inv.1, ?_⟩
  cases x with
  | true => exact iteT (k _ H1 [] s1 (.bl _) KdOk.nil)
  | false => exact iteF (b2 σ H1 F _ (R.same s1) (h2 rfl) fun v H2 fp s2 r2 k2 => k v H2 fp (s1.trans s2) r2 ⟨k2.1, fun a ha => s1.free (k2.2 a ha)⟩)
theorem ex_not {x : Bool} {kx : Kd} (ha : EX X G a p x kx) : EX X G (.UnaryOp .Not a pos) p (!x) .frs := by
  obtain ⟨ta, a1, a2⟩ := ha
  exact ⟨_, pe_not a1, fun σ H F Q R hp k => a2 σ H F _ R hp fun v H1 fp s1 r1 _ => ⟨x, r1.bl_inv.1, k _ H1 [] s1 (.bl _) KdOk.nil⟩⟩

/-! ### places -/
/-- the place of i among n -/
def pyIx (n : Nat) (i : Int) : Option Nat := ixN n i
def pyGet {t : Type} (d : t) (xs : List t) (i : Int) : t := ((ixN xs.length i).bind fun j => xs[j]?).getD d
def IxOk (n : Nat) (i : Int) : Prop := -(n : Int) ≤ i ∧ i < n
theorem ixN_some {n : Nat} {i : Int} (h : IxOk n i) : ∃ j, ixN n i = some j ∧ j < n := by
  unfold IxOk at h
  unfold ixN
  by_cases h0 : 0 ≤ i
  · rw [if_pos h0, if_pos h.2]; exact ⟨_, rfl, by omega⟩
  · rw [if_neg h0, if_pos h.1]; exact ⟨_, rfl, by omega⟩
theorem atI_pyGet {t : Type} {d : t} {xs : List t} {i : Int} (h : IxOk xs.length i) : atI xs i = some (pyGet d xs i) := by
  obtain ⟨j, e, hj⟩ := ixN_some h
  unfold atI pyGet
  rw [e]
  simp [hj]
theorem ex_ixL {t : Type} [Enc t] {xs : List t} {i : Int} {kx ky : Kd} (d : t) (ha : EX X G a pa xs kx) (hb : EX X G b pb i ky) {p1 : Prop} (c1 : Cmb pa pb p1) (c2 : Cmb p1 (IxOk xs.length i) p) (hs : PlainIx b := by exact fun _ _ => rfl) :
    EX X G (.Subscript a b pos) p (pyGet d xs i) (match kx with | .frs => .shr | k => k) := by
  obtain ⟨ta, a1, a2⟩ := ha
  obtain ⟨tb, b1, b2⟩ := hb
  refine ⟨_, pe_ix ix_list a1 b1 hs, fun σ H F Q R hp k => ?_⟩
  obtain ⟨hp1, hpr⟩ := c2.out hp
  obtain ⟨hpa, hpb⟩ := c1.out hp1
  refine a2 σ H F _ R hpa fun v H1 fp s1 r1 k1 => ?_
  refine b2 σ H1 F _ (R.same s1) hpb fun w H2 fp2 s2 r2 _ => ?_
  obtain ⟨l, vs, fp', rfl, hq, rs, sub⟩ := (r1.same s2).lst_inv
  obtain ⟨rfl, _⟩ := r2.int_inv
  have hl := rs.length
  rw [List.length_map] at hl
  obtain ⟨j, e, hj⟩ := ixN_some hpr
  have e2 : (xs.map enc)[j]? = some (enc (pyGet d xs i)) := by
    have q : pyGet d xs i = xs[j] := by unfold pyGet; rw [e]; simp [hj]
    rw [q]; simp [hj]
  obtain ⟨u, fu, e3, ru, su, _⟩ := rs.get e2
  refine ⟨l, vs, i, u, rfl, rfl, hq, ?_, ?_⟩
  · unfold atI; rw [hl, e]; exact e3
  · refine k u H2 fu (s1.trans s2) ru ?_
    cases kx with
    | any => trivial
    | shr => exact fun a ha => k1 a (sub a (su a ha))
    | frs => exact fun a ha => KdOk.shr_of k1 a (sub a (su a ha))
end
end BW

set_option Elab.async false
set_option linter.all false
set_option maxRecDepth 100000
set_option maxHeartbeats 4000000
/-! Expressions: places of tuples, slices, built-ins, calls; what is walked; comprehensions. -/
namespace BW
open PySem L2

section
variable {X : Cx} {G : Gam} {N : List Str} {sc : Scope} {e a b c : Expr} {es : List Expr} {p pa pb pr q : Prop} {pos ppos : Pos}

/-- an item of a tuple, by its place -/
theorem ex_ixT {t u : Type} [Enc t] [Enc u] {x : t} {i : Int} {kx ky : Kd} (y : u) (ha : EX X G a p x kx) (hb : EX X G b True i ky) {ds : List D} (j : Nat) (hx : enc x = .tup ds := by rfl) (hj : ixN ds.length i = some j := by rfl) (hy : ds[j]? = some (enc y) := by rfl) (hs : PlainIx b := by exact fun _ _ => rfl) :
    EX X G (.Subscript a b pos) p y kx := by
  obtain ⟨ta, a1, a2⟩ := ha
  obtain ⟨tb, b1, b2⟩ := hb
  refine ⟨_, pe_ix ix_tup a1 b1 hs, fun σ H F Q R hp k => ?_⟩
  refine a2 σ H F _ R hp fun v H1 fp s1 r1 k1 => ?_
  refine b2 σ H1 F _ (R.same s1) trivial fun w H2 fp2 s2 r2 _ => ?_
  obtain ⟨l, vs, rfl, hq, rs⟩ := Rep.tup_inv (show Rep X.K H2 fp v (.tup ds) from hx ▸ (r1.same s2))
  obtain ⟨rfl, _⟩ := r2.int_inv
  obtain ⟨w, fw, e3, rw', sw, nw⟩ := rs.get hy
  refine ⟨l, vs, i, w, rfl, rfl, hq, ?_, k w H2 fw (s1.trans s2) rw' ?_⟩
  · unfold atI; rw [rs.length, hj]; exact e3
  · cases kx with
    | any => trivial
    | shr => exact fun a ha => k1 a (sw a ha)
    | frs => exact ⟨nw k1.1, fun a ha => k1.2 a (sw a ha)⟩

/-! ### calls of built-ins -/
theorem ex_cb {id : String} {x : Str} {r : List V → Hp → VK → Prop} {u : Type} [Enc u] {z : u} {ds : List D} {k : Kd} (C : Cxf X N sc) (hc : CallR X (.builtin id) r) (hg : sc.names.lookup x = some .globalImplicit) (hm : X.mg x = none) (hv : bootBuiltins x = some (.builtin id)) (ha : AX X G (e :: es) pa ds k)
    (h : pr → ∀ H fp vs (Q : VK), Reps X.K H fp vs ds → (∀ v' H' fp, Same H H' → Rep X.K H' fp v' (enc z) → fp.Nodup → (∀ a ∈ fp, H a = none) → Q v' H') → r vs H Q) (c1 : Cmb pa pr p)
    (hn : x ≠ "__name__" := by decide) (hdb : (x == ("__debug__" : Str)) = false := by decide) (he : starEach (e :: es) X.env = (false, eval e X.env) :: starEach es X.env := by rfl) (hpl : (backTo pos (starEach es X.env)).any (·.1) = false := by rfl) :
    EX X G (.Call (.Name x ppos) (e :: es) [] pos) p z .frs := by
  obtain ⟨ta, a1, a2⟩ := ha
  refine ⟨_, pe_callB hc (C.gl hg) hm hv a1 hn hdb he hpl, fun σ H F Q R hp q => ?_⟩
  obtain ⟨hpa, hpr⟩ := c1.out hp
  refine a2 σ H F _ R hpa fun vs H1 fp s1 r1 _ => ?_
  exact h hpr H1 fp vs Q r1 fun v' H' fp' s r' n f => q v' H' fp' (s1.trans s) r' ⟨n, fun a ha => s1.free (f a ha)⟩
theorem ex_ct {T : String} {x : Str} {r : List V → Hp → VK → Prop} {u : Type} [Enc u] {z : u} {ds : List D} {k : Kd} (C : Cxf X N sc) (hc : CallR X (.type T) r) (hg : sc.names.lookup x = some .globalImplicit) (hm : X.mg x = none) (hv : bootBuiltins x = some (.type T)) (ha : AX X G (e :: es) pa ds k)
    (h : pr → ∀ H fp vs (Q : VK), Reps X.K H fp vs ds → (∀ v' H' fp, Same H H' → Rep X.K H' fp v' (enc z) → fp.Nodup → (∀ a ∈ fp, H a = none) → Q v' H') → r vs H Q) (c1 : Cmb pa pr p)
    (hn : x ≠ "__name__" := by decide) (hdb : (x == ("__debug__" : Str)) = false := by decide) (he : starEach (e :: es) X.env = (false, eval e X.env) :: starEach es X.env := by rfl) (hpl : (backTo pos (starEach es X.env)).any (·.1) = false := by rfl) :
    EX X G (.Call (.Name x ppos) (e :: es) [] pos) p z .frs := by
  obtain ⟨ta, a1, a2⟩ := ha
  refine ⟨_, pe_callTy hc (C.gl hg) hm hv a1 hn hdb he hpl, fun σ H F Q R hp q => ?_⟩
  obtain ⟨hpa, hpr⟩ := c1.out hp
  refine a2 σ H F _ R hpa fun vs H1 fp s1 r1 _ => ?_
  exact h hpr H1 fp vs Q r1 fun v' H' fp' s r' n f => q v' H' fp' (s1.trans s) r' ⟨n, fun a ha => s1.free (f a ha)⟩
theorem Reps.one {K : PySem.W.Frag} {H : Hp} {fp : List Addr} {vs : List V} {d : D} (r : Reps K H fp vs [d]) : ∃ v, vs = [v] ∧ Rep K H fp v d := by
  cases r with
  | cons h r => cases r; exact ⟨_, rfl, by simpa using h⟩
theorem Reps.two {K : PySem.W.Frag} {H : Hp} {fp : List Addr} {vs : List V} {d d2 : D} (r : Reps K H fp vs [d, d2]) : ∃ v v2 fp1 fp2, vs = [v, v2] ∧ Rep K H fp1 v d ∧ Rep K H fp2 v2 d2 ∧ fp = fp1 ++ fp2 := by
  cases r with
  | cons h r => cases r with
    | cons h2 r => cases r; exact ⟨_, _, _, _, rfl, h, h2, by simp⟩
theorem ax1 {t : Type} [Enc t] {x : t} {k : Kd} (he : EX X G e p x k) (hs : starEach [e] X.env = (false, eval e X.env) :: starEach [] X.env := by rfl) : AX X G [e] p [enc x] k := ax_cons he ax_nil (.l p) hs
theorem ax2 {t u : Type} [Enc t] [Enc u] {x : t} {y : u} {k : Kd} (ha : EX X G a pa x k) (hb : EX X G b pb y k) (c : Cmb pa pb p) (hs : starEach [a, b] X.env = (false, eval a X.env) :: starEach [b] X.env := by rfl) (hs2 : starEach [b] X.env = (false, eval b X.env) :: starEach [] X.env := by rfl) : AX X G [a, b] p [enc x, enc y] k := ax_cons ha (ax1 hb hs2) c hs

theorem ex_len (C : Cxf X N sc) (hg : sc.names.lookup ("len" : Str) = some .globalImplicit) (hm : X.mg "len" = none) {t : Type} [Enc t] {xs : List t} {k : Kd} (ha : EX X G e p xs k) (hs : starEach [e] X.env = (false, eval e X.env) :: starEach [] X.env := by rfl) :
    EX X G (.Call (.Name "len" ppos) [e] [] pos) p (xs.length : Int) .frs :=
  ex_cb (pr := True) C call_len_seq hg hm PySem.boot_len (ax1 ha hs) (fun _ H fp vs Q r k => by
    obtain ⟨v, rfl, r1⟩ := r.one
    obtain ⟨l, ws, fp', rfl, hq, rs, _⟩ := r1.lst_inv
    refine ⟨l, ws, rfl, .inl hq, ?_⟩
    have hl := rs.length
    rw [List.length_map] at hl
    rw [hl]
    exact k _ H [] (Same.refl _) (.int _) List.nodup_nil (fun _ h => nomatch h)) (.l p) (by decide) (by decide) hs rfl
theorem ex_lenS (C : Cxf X N sc) (hg : sc.names.lookup ("len" : Str) = some .globalImplicit) (hm : X.mg "len" = none) {z : Str} {k : Kd} (ha : EX X G e pa z k) (c1 : Cmb pa (z.length ≤ sizeLine) p) (hs : starEach [e] X.env = (false, eval e X.env) :: starEach [] X.env := by rfl) :
    EX X G (.Call (.Name "len" ppos) [e] [] pos) p (z.length : Int) .frs :=
  ex_cb C call_len_str hg hm PySem.boot_len (ax1 ha hs) (fun hl H fp vs Q r k => by
    obtain ⟨v, rfl, r1⟩ := r.one
    obtain ⟨rfl, _⟩ := r1.str_inv
    exact ⟨z, rfl, hl, k _ H [] (Same.refl _) (.int _) List.nodup_nil (fun _ h => nomatch h)⟩) c1 (by decide) (by decide) hs rfl
def b2I (b : Bool) : Int := if b then 1 else 0
theorem ex_intB (C : Cxf X N sc) (hg : sc.names.lookup ("int" : Str) = some .globalImplicit) (hm : X.mg "int" = none) {z : Bool} {k : Kd} (ha : EX X G e p z k) (hs : starEach [e] X.env = (false, eval e X.env) :: starEach [] X.env := by rfl) :
    EX X G (.Call (.Name "int" ppos) [e] [] pos) p (b2I z) .frs :=
  ex_ct (pr := True) C call_int1 hg hm (by decide +kernel) (ax1 ha hs) (fun hl H fp vs Q r k => by
    obtain ⟨v, rfl, r1⟩ := r.one
    obtain ⟨rfl, _⟩ := r1.bl_inv
    exact .inr ⟨z, rfl, k _ H [] (Same.refl _) (.int _) List.nodup_nil (fun _ h => nomatch h)⟩) (.l p) (by decide) (by decide) hs rfl
theorem ex_list_of (C : Cxf X N sc) (hg : sc.names.lookup ("list" : Str) = some .globalImplicit) (hm : X.mg "list" = none) {t : Type} [Enc t] [Flat t] {xs : List t} {k : Kd} (ha : EX X G e p xs k) (hs : starEach [e] X.env = (false, eval e X.env) :: starEach [] X.env := by rfl) :
    EX X G (.Call (.Name "list" ppos) [e] [] pos) p xs .frs :=
  ex_ct (pr := True) C call_list_of hg hm (by decide +kernel) (ax1 ha hs) (fun _ H fp vs Q r k => by
    obtain ⟨v, rfl, r1⟩ := r.one
    obtain ⟨l, ws, fp', rfl, hq, rs, _⟩ := r1.lst_inv
    refine ⟨l, ws, rfl, .inl hq, fun l' hn => ?_⟩
    have hf : ∀ {xs : List t} {fp : List Addr} {ws : List V}, Reps X.K H fp ws (xs.map enc) → fp = [] := fun {xs} => by
      induction xs with
      | nil => intro fp ws r; cases r; rfl
      | cons x xs ih => intro fp ws r; cases r with | cons h r => rw [ih r, Flat.flat x h]; rfl
    have z := hf rs
    subst z
    exact k _ _ [l'] (Same.upd hn) (.lst upd_same (rs.same (Same.upd hn))) (by simp) (fun a ha => by simp at ha; rw [ha]; exact hn)) (.l p) (by decide) (by decide) hs rfl
theorem call_sumX (hc : X.calm = true) : CallR X (.builtin "sum") (rSum X.K) := cr_sum hc
theorem ex_sum (C : Cxf X N sc) (hg : sc.names.lookup ("sum" : Str) = some .globalImplicit) (hm : X.mg "sum" = none) {xs : List Int} {k : Kd} (ha : EX X G e p xs k) (hs : starEach [e] X.env = (false, eval e X.env) :: starEach [] X.env := by rfl) :
    EX X G (.Call (.Name "sum" ppos) [e] [] pos) p xs.sum .frs :=
  ex_cb (pr := True) C (cr_sum C.calm) hg hm (by decide +kernel) (ax1 ha hs) (fun _ H fp vs Q r k => by
    obtain ⟨v, rfl, r1⟩ := r.one
    obtain ⟨l, ws, fp', rfl, hq, rs, _⟩ := r1.lst_inv
    obtain ⟨rfl, rfl⟩ := Reps.ints rs
    exact ⟨l, xs, rfl, hq, k _ H [] (Same.refl _) (.int _) List.nodup_nil (fun _ h => nomatch h)⟩) (.l p) (by decide) (by decide) hs rfl
/-- the greatest, the least -/
def maxL : List Int → Int
  | [] => 0
  | x :: xs => xs.foldl (fun a b => if b > a then b else a) x
def minL : List Int → Int
  | [] => 0
  | x :: xs => xs.foldl (fun a b => if b < a then b else a) x
theorem maxF (xs : List Int) : ∀ x : Int, (xs.foldl (fun a b => if b > a then b else a) x = x ∨ xs.foldl (fun a b => if b > a then b else a) x ∈ xs) ∧ x ≤ xs.foldl (fun a b => if b > a then b else a) x ∧ ∀ y ∈ xs, y ≤ xs.foldl (fun a b => if b > a then b else a) x := by
  induction xs with
  | nil => intro x; exact ⟨.inl rfl, Int.le_refl _, fun _ h => nomatch h⟩
  | cons z xs ih =>
    intro x
    simp only [List.foldl_cons]
    obtain ⟨h1, h2, h3⟩ := ih (if z > x then z else x)
    refine ⟨?_, ?_, fun y hy => ?_⟩
    · rcases h1 with h1 | h1
      · rw [h1]; split
        · exact .inr List.mem_cons_self
        · exact .inl rfl
      · exact .inr (List.mem_cons_of_mem _ h1)
    · refine Int.le_trans ?_ h2; split <;> omega
    · rcases List.mem_cons.mp hy with e | e
      · subst e; refine Int.le_trans ?_ h2; split <;> omega
      · exact h3 y e
theorem minF (xs : List Int) : ∀ x : Int, (xs.foldl (fun a b => if b < a then b else a) x = x ∨ xs.foldl (fun a b => if b < a then b else a) x ∈ xs) ∧ xs.foldl (fun a b => if b < a then b else a) x ≤ x ∧ ∀ y ∈ xs, xs.foldl (fun a b => if b < a then b else a) x ≤ y := by
  induction xs with
  | nil => intro x; exact ⟨.inl rfl, Int.le_refl _, fun _ h => nomatch h⟩
  | cons z xs ih =>
    intro x
    simp only [List.foldl_cons]
    obtain ⟨h1, h2, h3⟩ := ih (if z < x then z else x)
    refine ⟨?_, ?_, fun y hy => ?_⟩
    · rcases h1 with h1 | h1
      · rw [h1]; split
        · exact .inr List.mem_cons_self
        · exact .inl rfl
      · exact .inr (List.mem_cons_of_mem _ h1)
    · refine Int.le_trans h2 ?_; split <;> omega
    · rcases List.mem_cons.mp hy with e | e
      · subst e; refine Int.le_trans h2 ?_; split <;> omega
      · exact h3 y e
theorem maxL_mem {xs : List Int} (h : 0 < xs.length) : maxL xs ∈ xs := by
  cases xs with
  | nil => simp at h
  | cons x xs =>
    rcases (maxF xs x).1 with e | e
    · show xs.foldl _ x ∈ _; rw [e]; exact List.mem_cons_self
    · exact List.mem_cons_of_mem _ e
theorem maxL_le {xs : List Int} {y : Int} (h : y ∈ xs) : y ≤ maxL xs := by
  cases xs with
  | nil => nomatch h
  | cons x xs =>
    rcases List.mem_cons.mp h with e | e
    · subst e; exact (maxF xs y).2.1
    · exact (maxF xs x).2.2 y e
theorem minL_mem {xs : List Int} (h : 0 < xs.length) : minL xs ∈ xs := by
  cases xs with
  | nil => simp at h
  | cons x xs =>
    rcases (minF xs x).1 with e | e
    · show xs.foldl _ x ∈ _; rw [e]; exact List.mem_cons_self
    · exact List.mem_cons_of_mem _ e
theorem minL_le {xs : List Int} {y : Int} (h : y ∈ xs) : minL xs ≤ y := by
  cases xs with
  | nil => nomatch h
  | cons x xs =>
    rcases List.mem_cons.mp h with e | e
    · subst e; exact (minF xs y).2.1
    · exact (minF xs x).2.2 y e
theorem ex_maxL (C : Cxf X N sc) (hg : sc.names.lookup ("max" : Str) = some .globalImplicit) (hm : X.mg "max" = none) {xs : List Int} {k : Kd} (ha : EX X G e pa xs k) (c1 : Cmb pa (0 < xs.length) p) (hs : starEach [e] X.env = (false, eval e X.env) :: starEach [] X.env := by rfl) :
    EX X G (.Call (.Name "max" ppos) [e] [] pos) p (maxL xs) .frs :=
  ex_cb C (cr_max C.calm) hg hm (by decide +kernel) (ax1 ha hs) (fun hl H fp vs Q r k => by
    obtain ⟨v, rfl, r1⟩ := r.one
    obtain ⟨l, ws, fp', rfl, hq, rs, _⟩ := r1.lst_inv
    obtain ⟨rfl, rfl⟩ := Reps.ints rs
    refine ⟨l, xs, rfl, hq, hl, fun m h1 h2 => ?_⟩
    have e : m = maxL xs := Int.le_antisymm (maxL_le h1) (h2 _ (maxL_mem hl))
    rw [e]
    exact k _ H [] (Same.refl _) (.int _) List.nodup_nil (fun _ h => nomatch h)) c1 (by decide) (by decide) hs rfl
theorem ex_minL (C : Cxf X N sc) (hg : sc.names.lookup ("min" : Str) = some .globalImplicit) (hm : X.mg "min" = none) {xs : List Int} {k : Kd} (ha : EX X G e pa xs k) (c1 : Cmb pa (0 < xs.length) p) (hs : starEach [e] X.env = (false, eval e X.env) :: starEach [] X.env := by rfl) :
    EX X G (.Call (.Name "min" ppos) [e] [] pos) p (minL xs) .frs :=
  ex_cb C (cr_min C.calm) hg hm (by decide +kernel) (ax1 ha hs) (fun hl H fp vs Q r k => by
    obtain ⟨v, rfl, r1⟩ := r.one
    obtain ⟨l, ws, fp', rfl, hq, rs, _⟩ := r1.lst_inv
    obtain ⟨rfl, rfl⟩ := Reps.ints rs
    refine ⟨l, xs, rfl, hq, hl, fun m h1 h2 => ?_⟩
    have e : m = minL xs := Int.le_antisymm (h2 _ (minL_mem hl)) (minL_le h1)
    rw [e]
    exact k _ H [] (Same.refl _) (.int _) List.nodup_nil (fun _ h => nomatch h)) c1 (by decide) (by decide) hs rfl
theorem ex_max2 (C : Cxf X N sc) (hg : sc.names.lookup ("max" : Str) = some .globalImplicit) (hm : X.mg "max" = none) {x y : Int} {k : Kd} (ha : AX X G [a, b] p [enc x, enc y] k) (he : starEach [a, b] X.env = (false, eval a X.env) :: starEach [b] X.env := by rfl) (hpl : (backTo pos (starEach [b] X.env)).any (·.1) = false := by rfl) :
    EX X G (.Call (.Name "max" ppos) [a, b] [] pos) p (max x y) .frs :=
  ex_cb (pr := True) C (call_max2 C.calm) hg hm (by decide +kernel) ha (fun hl H fp vs Q r k => by
    obtain ⟨v, v2, _, _, rfl, r1, r2, _⟩ := r.two
    obtain ⟨rfl, _⟩ := r1.int_inv
    obtain ⟨rfl, _⟩ := r2.int_inv
    refine ⟨x, y, rfl, ?_⟩
    have e : (if y > x then y else x) = max x y := by split <;> omega
    rw [e]
    exact k _ H [] (Same.refl _) (.int _) List.nodup_nil (fun _ h => nomatch h)) (.l p) (by decide) (by decide) he hpl
theorem ex_min2 (C : Cxf X N sc) (hg : sc.names.lookup ("min" : Str) = some .globalImplicit) (hm : X.mg "min" = none) {x y : Int} {k : Kd} (ha : AX X G [a, b] p [enc x, enc y] k) (he : starEach [a, b] X.env = (false, eval a X.env) :: starEach [b] X.env := by rfl) (hpl : (backTo pos (starEach [b] X.env)).any (·.1) = false := by rfl) :
    EX X G (.Call (.Name "min" ppos) [a, b] [] pos) p (min x y) .frs :=
  ex_cb (pr := True) C (call_min2 C.calm) hg hm (by decide +kernel) ha (fun hl H fp vs Q r k => by
    obtain ⟨v, v2, _, _, rfl, r1, r2, _⟩ := r.two
    obtain ⟨rfl, _⟩ := r1.int_inv
    obtain ⟨rfl, _⟩ := r2.int_inv
    refine ⟨x, y, rfl, ?_⟩
    have e : (if y < x then y else x) = min x y := by split <;> omega
    rw [e]
    exact k _ H [] (Same.refl _) (.int _) List.nodup_nil (fun _ h => nomatch h)) (.l p) (by decide) (by decide) he hpl
end
end BW

set_option Elab.async false
set_option linter.all false
set_option maxRecDepth 100000
set_option maxHeartbeats 4000000
/-! Slices, sums of lists, in; calls; what is walked. -/
namespace BW
open PySem L2

section
variable {X : Cx} {G : Gam} {N : List Str} {sc : Scope} {e a b c : Expr} {es : List Expr} {p pa pb pr q : Prop} {pos ppos : Pos}

theorem Reps.drop {K : PySem.W.Frag} {H : Hp} : ∀ {fp : List Addr} {vs : List V} {ds : List D} (n : Nat), Reps K H fp vs ds → ∃ fp', Reps K H fp' (vs.drop n) (ds.drop n) ∧ (∀ a ∈ fp', a ∈ fp) ∧ (fp.Nodup → fp'.Nodup)
  | fp, _, _, 0, r => ⟨fp, r, fun _ h => h, fun h => h⟩
  | _, _, _, n + 1, .nil => by exact ⟨[], .nil, fun _ h => h, fun h => h⟩
  | _, _, _, n + 1, .cons h r => by
    obtain ⟨fp', r', s, m⟩ := r.drop n
    exact ⟨fp', r', fun a z => List.mem_append_right _ (s a z), fun z => m (List.nodup_append.mp z).2.1⟩
theorem Reps.take {K : PySem.W.Frag} {H : Hp} : ∀ {fp : List Addr} {vs : List V} {ds : List D} (n : Nat), Reps K H fp vs ds → ∃ fp', Reps K H fp' (vs.take n) (ds.take n) ∧ (∀ a ∈ fp', a ∈ fp) ∧ (fp.Nodup → fp'.Nodup)
  | _, _, _, 0, _ => ⟨[], .nil, (fun _ h => nomatch h), fun _ => List.nodup_nil⟩
  | _, _, _, n + 1, .nil => ⟨[], .nil, fun _ h => h, fun h => h⟩
  | _, _, _, n + 1, .cons (fp := fp1) h r => by
    obtain ⟨fp', r', s, m⟩ := r.take n
    refine ⟨fp1 ++ fp', .cons h r', fun a z => ?_, fun z => ?_⟩
    · rcases List.mem_append.mp z with z | z
      · exact List.mem_append_left _ z
      · exact List.mem_append_right _ (s a z)
    · have q := List.nodup_append.mp z
      exact List.nodup_append.mpr ⟨q.1, m q.2.1, fun a ha b hb => q.2.2 a ha b (s b hb)⟩
def pySlice {t : Type} (xs : List t) (lo hi : Option Int) : List t := (xs.drop (HT.sIx xs.length 0 lo)).take (HT.sIx xs.length xs.length hi - HT.sIx xs.length 0 lo)
/-- a slice's end -/
def OX (X : Cx) (G : Gam) (e : Option Expr) (p : Prop) (o : Option Int) : Prop :=
  ∃ t, PO X e t ∧ ∀ σ H F (Q : Option Int → Hp → Prop), Rel X.K G σ H F → p → (∀ H', Same H H' → Q o H') → t σ H Q
theorem ox_none : OX X G none True none := ⟨_, po_none, fun _ H _ _ _ _ k => k H (Same.refl _)⟩
theorem ox_some {i : Int} {k : Kd} (h : EX X G e p i k) : OX X G (some e) p (some i) := by
  obtain ⟨te, h1, h2⟩ := h
  exact ⟨_, po_some h1, fun σ H F Q R hp k => h2 σ H F _ R hp fun v H' fp s r _ => ⟨i, r.int_inv.1, k H' s⟩⟩
theorem ex_slice {t : Type} [Enc t] {xs : List t} {l h : Option Expr} {lo hi : Option Int} {pl ph : Prop} {p1 p2' : Prop} {p2 : Pos} (ha : EX X G a pa xs .shr) (hl : OX X G l pl lo) (hh : OX X G h ph hi) (c1 : Cmb pa pl p1) (c2 : Cmb p1 ph p) :
    EX X G (.Subscript a (.Slice l h none p2) pos) p (pySlice xs lo hi) .shr := by
  obtain ⟨ta, a1, a2⟩ := ha
  obtain ⟨tl, l1, l2⟩ := hl
  obtain ⟨th, h1, h2⟩ := hh
  refine ⟨_, pe_slice sl_list a1 l1 h1, fun σ H F Q R hp k => ?_⟩
  obtain ⟨hp1, hph⟩ := c2.out hp
  obtain ⟨hpa, hpl⟩ := c1.out hp1
  refine a2 σ H F _ R hpa fun v H1 fp s1 r1 k1 => ?_
  refine l2 σ H1 F _ (R.same s1) hpl fun H2 s2 => h2 σ H2 F _ ((R.same s1).same s2) hph fun H3 s3 => ?_
  obtain ⟨l, vs, fp', rfl, hq, rs, sub⟩ := ((r1.same s2).same s3).lst_inv
  refine ⟨l, vs, rfl, hq, fun n hn => ?_⟩
  have hl := rs.length
  rw [List.length_map] at hl
  obtain ⟨f1, r2, u1, _⟩ := rs.drop (HT.sIx xs.length 0 lo)
  obtain ⟨f2, r3, u2, _⟩ := r2.take (HT.sIx xs.length xs.length hi - HT.sIx xs.length 0 lo)
  rw [← List.map_drop, ← List.map_take] at r3
  have e1 : cutV vs lo hi = (vs.drop (HT.sIx xs.length 0 lo)).take (HT.sIx xs.length xs.length hi - HT.sIx xs.length 0 lo) := by unfold cutV; rw [hl]
  refine k _ _ (n :: f2) (s1.trans (s2.trans (s3.trans (Same.upd hn)))) (.lst upd_same (by rw [e1]; exact r3.same (Same.upd hn))) ?_
  exact KdOk.top (k := .shr) (s1.trans (s2.trans s3)) hn (fun a ha => (r3.there ha)) (fun a ha => k1 a (sub a (u1 a (u2 a ha))))
/-- items without lists: the slice is new -/
class FlatL (t : Type) [Enc t] : Prop where
  flat : ∀ {K : PySem.W.Frag} {H : Hp} {fp : List Addr} {vs : List V} (xs : List t), Reps K H fp vs (xs.map enc) → fp = []
instance {t : Type} [Enc t] [Flat t] : FlatL t := ⟨fun {K H fp vs} xs => by
  induction xs generalizing fp vs with
  | nil => intro r; cases r; rfl
  | cons x xs ih => intro r; cases r with | cons h r => rw [ih r, Flat.flat x h]; rfl⟩
theorem ex_sliceF {t : Type} [Enc t] [Flat t] {xs : List t} {l h : Option Expr} {lo hi : Option Int} {pl ph : Prop} {p1 p2' : Prop} {p2 : Pos} {kx : Kd} (ha : EX X G a pa xs kx) (hl : OX X G l pl lo) (hh : OX X G h ph hi) (c1 : Cmb pa pl p1) (c2 : Cmb p1 ph p) :
    EX X G (.Subscript a (.Slice l h none p2) pos) p (pySlice xs lo hi) .frs := by
  obtain ⟨ta, a1, a2⟩ := ha
  obtain ⟨tl, l1, l2⟩ := hl
  obtain ⟨th, h1, h2⟩ := hh
  refine ⟨_, pe_slice sl_list a1 l1 h1, fun σ H F Q R hp k => ?_⟩
  obtain ⟨hp1, hph⟩ := c2.out hp
  obtain ⟨hpa, hpl⟩ := c1.out hp1
  refine a2 σ H F _ R hpa fun v H1 fp s1 r1 k1 => ?_
  refine l2 σ H1 F _ (R.same s1) hpl fun H2 s2 => h2 σ H2 F _ ((R.same s1).same s2) hph fun H3 s3 => ?_
  obtain ⟨l, vs, fp', rfl, hq, rs, sub⟩ := ((r1.same s2).same s3).lst_inv
  refine ⟨l, vs, rfl, hq, fun n hn => ?_⟩
  have hl := rs.length
  rw [List.length_map] at hl
  obtain ⟨f1, r2, u1, _⟩ := rs.drop (HT.sIx xs.length 0 lo)
  obtain ⟨f2, r3, u2, _⟩ := r2.take (HT.sIx xs.length xs.length hi - HT.sIx xs.length 0 lo)
  rw [← List.map_drop, ← List.map_take] at r3
  have e1 : cutV vs lo hi = (vs.drop (HT.sIx xs.length 0 lo)).take (HT.sIx xs.length xs.length hi - HT.sIx xs.length 0 lo) := by unfold cutV; rw [hl]
  have z := FlatL.flat _ r3
  subst z
  refine k _ _ [n] (s1.trans (s2.trans (s3.trans (Same.upd hn)))) (.lst upd_same (by rw [e1]; exact r3.same (Same.upd hn))) ⟨by simp, fun a ha => ?_⟩
  simp at ha
  rw [ha]
  exact s1.free (s2.free (s3.free hn))
/-- a slice of the script -/
theorem ex_sliceS {s : Scr} {l h : Option Expr} {lo hi : Option Int} {pl ph : Prop} {p1 p2' : Prop} {p2 : Pos} {kx : Kd} (ha : EX X G a pa s kx) (hl : OX X G l pl lo) (hh : OX X G h ph hi) (c1 : Cmb pa pl p1) (c2 : Cmb p1 ph p) :
    EX X G (.Subscript a (.Slice l h none p2) pos) p (pySlice s.xs lo hi) .frs := by
  obtain ⟨ta, a1, a2⟩ := ha
  obtain ⟨tl, l1, l2⟩ := hl
  obtain ⟨th, h1, h2⟩ := hh
  refine ⟨_, pe_slice sl_list a1 l1 h1, fun σ H F Q R hp k => ?_⟩
  obtain ⟨hp1, hph⟩ := c2.out hp
  obtain ⟨hpa, hpl⟩ := c1.out hp1
  refine a2 σ H F _ R hpa fun v H1 fp s1 r1 k1 => ?_
  refine l2 σ H1 F _ (R.same s1) hpl fun H2 s2 => h2 σ H2 F _ ((R.same s1).same s2) hph fun H3 s3 => ?_
  obtain ⟨l, rfl, hq, _⟩ := ((r1.same s2).same s3).scr_inv
  refine ⟨l, s.xs.map V.int, rfl, hq.sq, fun n hn => ?_⟩
  have e1 : cutV (s.xs.map V.int) lo hi = (pySlice s.xs lo hi).map V.int := by unfold cutV pySlice; rw [List.length_map, List.map_take, List.map_drop]
  refine k _ _ [n] (s1.trans (s2.trans (s3.trans (Same.upd hn)))) (.lst upd_same (by rw [e1]; exact Reps.of_ints _)) ⟨by simp, fun a ha => ?_⟩
  simp at ha
  rw [ha]
  exact s1.free (s2.free (s3.free hn))
theorem ex_lenScr (C : Cxf X N sc) (hg : sc.names.lookup ("len" : Str) = some .globalImplicit) (hm : X.mg "len" = none) {s : Scr} {k : Kd} (ha : EX X G e p s k) (hs : starEach [e] X.env = (false, eval e X.env) :: starEach [] X.env := by rfl) :
    EX X G (.Call (.Name "len" ppos) [e] [] pos) p (s.xs.length : Int) .frs :=
  ex_cb (pr := True) C call_len_seq hg hm PySem.boot_len (ax1 ha hs) (fun _ H fp vs Q r k => by
    obtain ⟨v, rfl, r1⟩ := r.one
    obtain ⟨l, rfl, hq, _⟩ := r1.scr_inv
    refine ⟨l, s.xs.map V.int, rfl, .inl hq.sq, ?_⟩
    rw [List.length_map]
    exact k _ H [] (Same.refl _) (.int _) List.nodup_nil (fun _ h => nomatch h)) (.l p) (by decide) (by decide) hs rfl
theorem ex_ixScr {s : Scr} {i : Int} {kx ky : Kd} (ha : EX X G a pa s kx) (hb : EX X G b pb i ky) {p1 : Prop} (c1 : Cmb pa pb p1) (c2 : Cmb p1 (IxOk s.xs.length i) p) (hs : PlainIx b := by exact fun _ _ => rfl) :
    EX X G (.Subscript a b pos) p (pyGet 0 s.xs i) .frs := by
  obtain ⟨ta, a1, a2⟩ := ha
  obtain ⟨tb, b1, b2⟩ := hb
  refine ⟨_, pe_ix ix_list a1 b1 hs, fun σ H F Q R hp k => ?_⟩
  obtain ⟨hp1, hpr⟩ := c2.out hp
  obtain ⟨hpa, hpb⟩ := c1.out hp1
  refine a2 σ H F _ R hpa fun v H1 fp s1 r1 k1 => ?_
  refine b2 σ H1 F _ (R.same s1) hpb fun w H2 fp2 s2 r2 _ => ?_
  obtain ⟨l, rfl, hq, _⟩ := (r1.same s2).scr_inv
  obtain ⟨rfl, _⟩ := r2.int_inv
  refine ⟨l, s.xs.map V.int, i, .int (pyGet 0 s.xs i), rfl, rfl, hq.sq, ?_, k _ H2 [] (s1.trans s2) (.int _) KdOk.nil⟩
  have q := atI_pyGet (d := (0 : Int)) hpr
  obtain ⟨j, ej, hj⟩ := ixN_some hpr
  unfold atI at q ⊢
  rw [List.length_map, ej]
  rw [ej] at q
  simp only [Option.bind_some, List.getElem?_map] at q ⊢
  rw [q]; rfl

/-- xs + ys -/
theorem ex_cat {t : Type} [Enc t] {xs ys : List t} {k : Kd} (ha : EX X G a pa xs k) (hb : EX X G b pb ys k) {p1 : Prop} (c1 : Cmb pa pb p1) (c2 : Cmb p1 (xs.length + ys.length ≤ sizeLine) p) : EX X G (.BinOp a .Add b pos) p (xs ++ ys) k := by
  obtain ⟨ta, a1, a2⟩ := ha
  obtain ⟨tb, b1, b2⟩ := hb
  refine ⟨_, pe_op op_cat a1 b1, fun σ H F Q R hp q => ?_⟩
  obtain ⟨hp1, hpr⟩ := c2.out hp
  obtain ⟨hpa, hpb⟩ := c1.out hp1
  refine a2 σ H F _ R hpa fun v H1 fp s1 r1 k1 => ?_
  refine b2 σ H1 F _ (R.same s1) hpb fun w H2 fp2 s2 r2 k2 => ?_
  obtain ⟨l, vs, f1, rfl, h1, rs1, rfl⟩ := (r1.same s2).lst_inv'
  obtain ⟨m, ws, f2, rfl, h2, rs2, rfl⟩ := r2.lst_inv'
  have l1 := rs1.length
  have l2 := rs2.length
  rw [List.length_map] at l1 l2
  refine ⟨l, m, vs, ws, rfl, rfl, h1, h2, by rw [l1, l2]; exact hpr, fun n hn => ?_⟩
  have rr := rs1.append rs2
  refine q _ _ (n :: (f1 ++ f2)) (s1.trans (s2.trans (Same.upd hn))) (.lst upd_same (by rw [List.map_append]; exact rr.same (Same.upd hn))) ?_
  refine KdOk.top (s1.trans s2) hn (fun a ha => rr.there ha) ?_
  cases k with
  | any => trivial
  | shr => exact fun a ha => (List.mem_append.mp ha).elim (fun z => k1 a (List.mem_cons_of_mem _ z)) (fun z => (k2 a (List.mem_cons_of_mem _ z)).imp s1.free id)
  | frs =>
    have n1 := (List.nodup_cons.mp k1.1).2
    have n2 := (List.nodup_cons.mp k2.1).2
    refine ⟨List.nodup_append.mpr ⟨n1, n2, fun a ha b hb e => ?_⟩, fun a ha => (List.mem_append.mp ha).elim (fun h => k1.2 a (List.mem_cons_of_mem _ h)) fun h => s1.free (k2.2 a (List.mem_cons_of_mem _ h))⟩
    subst e
    exact r1.there (List.mem_cons_of_mem _ ha) (k2.2 a (List.mem_cons_of_mem _ hb))
theorem ex_catF {t : Type} [Enc t] [Flat t] {xs ys : List t} {kx ky : Kd} (ha : EX X G a pa xs kx) (hb : EX X G b pb ys ky) {p1 : Prop} (c1 : Cmb pa pb p1) (c2 : Cmb p1 (xs.length + ys.length ≤ sizeLine) p) : EX X G (.BinOp a .Add b pos) p (xs ++ ys) .frs := by
  obtain ⟨ta, a1, a2⟩ := ha
  obtain ⟨tb, b1, b2⟩ := hb
  refine ⟨_, pe_op op_cat a1 b1, fun σ H F Q R hp q => ?_⟩
  obtain ⟨hp1, hpr⟩ := c2.out hp
  obtain ⟨hpa, hpb⟩ := c1.out hp1
  refine a2 σ H F _ R hpa fun v H1 fp s1 r1 k1 => ?_
  refine b2 σ H1 F _ (R.same s1) hpb fun w H2 fp2 s2 r2 k2 => ?_
  obtain ⟨l, vs, f1, rfl, h1, rs1, rfl⟩ := (r1.same s2).lst_inv'
  obtain ⟨m, ws, f2, rfl, h2, rs2, rfl⟩ := r2.lst_inv'
  have l1 := rs1.length
  have l2 := rs2.length
  rw [List.length_map] at l1 l2
  have z1 := FlatL.flat _ rs1
  have z2 := FlatL.flat _ rs2
  subst z1 z2
  refine ⟨l, m, vs, ws, rfl, rfl, h1, h2, by rw [l1, l2]; exact hpr, fun n hn => ?_⟩
  have rr := rs1.append rs2
  refine q _ _ [n] (s1.trans (s2.trans (Same.upd hn))) (.lst upd_same (by rw [List.map_append]; exact rr.same (Same.upd hn))) ⟨by simp, fun a ha => ?_⟩
  simp at ha
  rw [ha]
  exact s1.free (s2.free hn)
/-- xs * n -/
def pyRep {t : Type} (xs : List t) (n : Int) : List t := (List.replicate n.toNat xs).flatten
theorem rep_map {t u : Type} (f : t → u) (xs : List t) (n : Nat) : ((List.replicate n xs).flatten).map f = (List.replicate n (xs.map f)).flatten := by
  induction n with
  | zero => rfl
  | succ n ih => rw [List.replicate_succ, List.flatten_cons, List.map_append, ih, List.replicate_succ, List.flatten_cons]
theorem reps_rep {K : PySem.W.Frag} {H : Hp} {vs : List V} {ds : List D} (r : Reps K H [] vs ds) : ∀ n : Nat, Reps K H [] (List.replicate n vs).flatten (List.replicate n ds).flatten
  | 0 => .nil
  | n + 1 => by
    rw [List.replicate_succ, List.flatten_cons, List.replicate_succ, List.flatten_cons]
    exact r.append (reps_rep r n)
theorem ex_rep {t : Type} [Enc t] [Flat t] {xs : List t} {n : Int} {kx ky : Kd} (ha : EX X G a pa xs kx) (hb : EX X G b pb n ky) {p1 : Prop} (c1 : Cmb pa pb p1) (c2 : Cmb p1 (-(2 ^ 63) ≤ n ∧ n < 2 ^ 63 ∧ xs.length * n.toNat ≤ sizeLine) p) : EX X G (.BinOp a .Mult b pos) p (pyRep xs n) .frs := by
  obtain ⟨ta, a1, a2⟩ := ha
  obtain ⟨tb, b1, b2⟩ := hb
  refine ⟨_, pe_op op_rep a1 b1, fun σ H F Q R hp q => ?_⟩
  obtain ⟨hp1, hpr⟩ := c2.out hp
  obtain ⟨hpa, hpb⟩ := c1.out hp1
  refine a2 σ H F _ R hpa fun v H1 fp s1 r1 k1 => ?_
  refine b2 σ H1 F _ (R.same s1) hpb fun w H2 fp2 s2 r2 k2 => ?_
  obtain ⟨l, vs, f1, rfl, h1, rs1, rfl⟩ := (r1.same s2).lst_inv'
  obtain ⟨rfl, _⟩ := r2.int_inv
  have l1 := rs1.length
  rw [List.length_map] at l1
  have z1 := FlatL.flat _ rs1
  subst z1
  refine ⟨l, n, vs, rfl, rfl, h1, hpr.1, hpr.2.1, by rw [l1]; exact hpr.2.2, fun m hm => ?_⟩
  refine q _ _ [m] (s1.trans (s2.trans (Same.upd hm))) (.lst upd_same (by
    show Reps _ _ _ _ (((List.replicate n.toNat xs).flatten).map enc)
    rw [rep_map]
    exact (reps_rep rs1 n.toNat).same (Same.upd hm))) ⟨by simp, fun a ha => ?_⟩
  simp at ha
  rw [ha]
  exact s1.free (s2.free hm)

/-! ### calls of own defs -/
/-- what a call wants of what a def gives -/
def RPost (K : PySem.W.Frag) (mg : Str → Option Value) (H : Hp) (Q : VK) (E : XK) {R : Type} [Enc R] : Except Str R → Prop
  | .ok r => ∀ v H' fp', Same H H' → Rep K H' fp' v (enc r) → fp'.Nodup → (∀ a ∈ fp', H a = none) → Q v H'
  | .error c => ∀ H' u, mg c = some u → Same H H' → E u none H'
/-- what a def gives: pre of its arguments, val its value or the class of what it raises -/
def spR (K : PySem.W.Frag) (mg : Str → Option Value) {A R : Type} [Enc R] (encs : A → List D) (pre : A → Prop) (val : A → Except Str R) : Sp := fun vs H Q E =>
  ∃ (x : A) (fp : List Addr), Reps K H fp vs (encs x) ∧ pre x ∧ RPost K mg H Q E (val x)
abbrev spV (K : PySem.W.Frag) (mg : Str → Option Value) {A R : Type} [Enc R] (encs : A → List D) (pre : A → Prop) (val : A → R) : Sp := spR K mg encs pre (fun x => .ok (val x))
structure Cal (P : Program) (w : World) (K : PySem.W.Frag) (mg : Str → Option Value) (base : Heap) (x : Str) (k : Nat) (ps : List Str) (sp : Sp) : Prop where
  ex : ∃ f fd, mg x = some (.ref f) ∧ PySem.W.keepIn K (.ref f) = true ∧ Binds K fd ps [] ∧ FnOk P w K mg base (L2.CX P w) k f fd ps sp
theorem ex_call {x : Str} {k : Nat} {ps : List Str} {A R : Type} [Enc R] {encs : A → List D} {pre : A → Prop} {val : A → R} (C : Cxf X N sc) (F : Cal X.prog X.w X.K X.mg X.base x k ps (spV X.K X.mg encs pre val)) (hr : Room k X.A) (hg : sc.names.lookup x = some .globalImplicit)
    (y : A) {kk : Kd} (ha : AX X G (e :: es) pa (encs y) kk) (c1 : Cmb pa (pre y) p) (hdb : (x == ("__debug__" : Str)) = false := by decide) (he : starEach (e :: es) X.env = (false, eval e X.env) :: starEach es X.env := by rfl) (hpl : (backTo pos (starEach es X.env)).any (·.1) = false := by rfl) :
    EX X G (.Call (.Name x ppos) (e :: es) [] pos) p (val y) .frs := by
  obtain ⟨ta, a1, a2⟩ := ha
  obtain ⟨f, fd, hm, hk, hb, F⟩ := F.ex
  refine ⟨_, pe_call F hr (C.gl hg) hm hk hb .nil passL a1 hdb he hpl, fun σ H F Q R hp q => ?_⟩
  obtain ⟨hpa, hpr⟩ := c1.out hp
  refine a2 σ H F _ R hpa fun vs H1 fp s1 r1 _ => ?_
  rw [List.append_nil]
  exact ⟨y, fp, r1, hpr, fun v H' fp' s r n f => q v H' fp' (s1.trans s) r ⟨n, fun a ha => s1.free (f a ha)⟩⟩
def IsOk {R : Type} : Except Str R → Prop
  | .ok _ => True
  | .error _ => False
def okD {R : Type} (d : R) : Except Str R → R
  | .ok r => r
  | .error _ => d
/-- a def that may raise, where it does not -/
theorem ex_callR {x : Str} {k : Nat} {ps : List Str} {A R : Type} [Enc R] {encs : A → List D} {pre : A → Prop} {val : A → Except Str R} (C : Cxf X N sc) (F : Cal X.prog X.w X.K X.mg X.base x k ps (spR X.K X.mg encs pre val)) (hr : Room k X.A) (hg : sc.names.lookup x = some .globalImplicit)
    (y : A) (d : R) {kk : Kd} {p1 : Prop} (ha : AX X G (e :: es) pa (encs y) kk) (c1 : Cmb pa (pre y) p1) (c2 : Cmb p1 (IsOk (val y)) p) (hdb : (x == ("__debug__" : Str)) = false := by decide) (he : starEach (e :: es) X.env = (false, eval e X.env) :: starEach es X.env := by rfl) (hpl : (backTo pos (starEach es X.env)).any (·.1) = false := by rfl) :
    EX X G (.Call (.Name x ppos) (e :: es) [] pos) p (okD d (val y)) .frs := by
  obtain ⟨ta, a1, a2⟩ := ha
  obtain ⟨f, fd, hm, hk, hb, F⟩ := F.ex
  refine ⟨_, pe_call F hr (C.gl hg) hm hk hb .nil passL a1 hdb he hpl, fun σ H F Q R hp q => ?_⟩
  obtain ⟨hp1, hok⟩ := c2.out hp
  obtain ⟨hpa, hpr⟩ := c1.out hp1
  refine a2 σ H F _ R hpa fun vs H1 fp s1 r1 _ => ?_
  rw [List.append_nil]
  refine ⟨y, fp, r1, hpr, ?_⟩
  generalize val y = r at hok q ⊢
  cases r with
  | error c => exact hok.elim
  | ok r =>
    exact fun v H' fp' s r n f => q v H' fp' (s1.trans s) r ⟨n, fun a ha => s1.free (f a ha)⟩

/-! ### what is walked -/
def Pst (nodes : List Addr) (Gd : Hp → Prop) : Prop := ∀ O H O' H', Frm O H O' H' → Lsts H O → (∀ a ∈ nodes, ¬ O a) → Gd H → Gd H' ∧ ∀ a ∈ nodes, ¬ O' a
def YR (K : PySem.W.Frag) (nodes : List Addr) {t : Type} [Enc t] (xs : List t) : Nat → Hp → V → Hp → Prop := fun i H v H' =>
  Same H H' ∧ ∃ fp y, xs[i]? = some y ∧ Rep K H' fp v (enc y) ∧ ∀ a ∈ fp, a ∈ nodes
def IX (X : Cx) (G : Gam) (tg iter : Expr) (p : Prop) {t : Type} [Enc t] (xs : List t) : Prop :=
  ∃ wi, PI X tg iter wi ∧ ∀ σ H F (R : It → Hp → Prop), Rel X.K G σ H F → p →
    (∀ J H1 nodes Gd, Same H H1 → (∀ a ∈ nodes, H a = none ∨ InS G F a) → (∀ a ∈ nodes, H1 a ≠ none) → Pst nodes Gd → Gd H1 → Walk J xs.length Gd (YR X.K nodes xs) → R J H1) → wi σ H R
theorem pst_rep {K : PySem.W.Frag} {nodes : List Addr} {v : V} {d : D} : Pst nodes (fun H => Rep K H nodes v d) := fun O H O' H' f l n r => Rep.frm f l r n
theorem get_of {t : Type} {xs : List t} {i : Nat} {y : t} {f : t → D} {d : D} (h : xs[i]? = some y) (e : (xs.map f)[i]? = some d) : d = f y := by
  rw [List.getElem?_map, h] at e
  exact (Option.some.inj e).symm
/-- a list that the body does not write -/
theorem ix_list {t : Type} [Enc t] {xs : List t} {tg : Expr} (ha : EX X G a p xs .shr) : IX X G tg a p xs := by
  obtain ⟨ta, a1, a2⟩ := ha
  refine ⟨_, pi_list a1, fun σ H F R Rl hp k => a2 σ H F _ Rl hp fun v H1 fp s1 r1 k1 => ?_⟩
  obtain ⟨l, vs, fp', rfl, h1, rs, e⟩ := r1.lst_inv'
  refine ⟨l, rfl, ⟨vs, SqL.of h1⟩, k _ H1 fp (fun H => Rep X.K H fp (.ref l) (enc xs)) s1 k1 (fun a ha => r1.there ha) pst_rep r1 ⟨fun i H hi g => ?_, fun H g => ?_, fun i H x H' hi g y => ?_⟩⟩
  · obtain ⟨l', vs', f', e1, h', rs', _⟩ := g.lst_inv'
    injection e1 with e1
    subst e1
    have hl := rs'.length
    rw [List.length_map] at hl
    exact ⟨vs', vs'[i]'(by omega), SqL.of h', by simp [show i < vs'.length by omega]⟩
  · obtain ⟨l', vs', f', e1, h', rs', _⟩ := g.lst_inv'
    injection e1 with e1
    subst e1
    have hl := rs'.length
    rw [List.length_map] at hl
    exact ⟨vs', SqL.of h', by omega⟩
  · obtain ⟨e0, hx⟩ := y
    subst e0
    obtain ⟨l', vs', f', e1, h', rs', ef⟩ := g.lst_inv'
    injection e1 with e1
    subst e1
    have q := hx vs' (SqL.of h')
    obtain ⟨u, fu, e3, ru, su, _⟩ := rs'.get (i := i) (d := enc xs[i]) (by simp [hi])
    rw [q] at e3
    have e4 := Option.some.inj e3
    subst e4
    exact ⟨Same.refl _, fu, xs[i], by simp [hi], ru, fun a ha => by rw [ef]; exact List.mem_cons_of_mem _ (su a ha)⟩
/-- range(n), range(a, b) -/
def pyRange (lo : Int) (n : Nat) : List Int := (List.range n).map fun (i : Nat) => lo + (i : Int)
theorem pyRange_len (lo : Int) (n : Nat) : (pyRange lo n).length = n := by simp [pyRange]
theorem pyRange_get {lo : Int} {n i : Nat} (h : i < n) : (pyRange lo n)[i]? = some (lo + (i : Int)) := by simp [pyRange, h]
def RgOk (i : Int) : Prop := -(2 ^ 62) ≤ i ∧ i < 2 ^ 62
theorem ix_range {tg : Expr} {n : Int} {k : Kd} (C : Cxf X N sc) (hg : sc.names.lookup ("range" : Str) = some .globalImplicit) (hm : X.mg "range" = none) (ha : EX X G a pa n k) (c1 : Cmb pa (RgOk n) p) (hs : starEach [a] X.env = [(false, eval a X.env)] := by rfl) :
    IX X G tg (.Call (.Name "range" ppos) [a] [] pos) p (pyRange 0 n.toNat) := by
  obtain ⟨ta, a1, a2⟩ := ax1 (p := pa) ha hs
  refine ⟨_, pi_range1 (C.gl hg) hm a1 hs, fun σ H F R Rl hp k => ?_⟩
  obtain ⟨hpa, hpr⟩ := c1.out hp
  refine a2 σ H F _ Rl hpa fun vs H1 fp s1 r1 k1 => ?_
  obtain ⟨v, rfl, r2⟩ := r1.one
  obtain ⟨rfl, _⟩ := r2.int_inv
  refine ⟨n, rfl, hpr.1, hpr.2, k _ H1 [] (fun _ => True) s1 (fun _ h => nomatch h) (fun _ h => nomatch h) (fun _ _ _ _ _ _ _ _ => ⟨trivial, (fun _ h => nomatch h)⟩) trivial ?_⟩
  rw [pyRange_len]
  exact (walk_range (lo := 0) (n := n.toNat)).mono (fun _ h => h) fun i H x H' hi _ y => by
    obtain ⟨e1, e2⟩ := y
    subst e1 e2
    exact ⟨Same.refl _, [], _, pyRange_get hi, .int _, fun _ h => nomatch h⟩
theorem ix_range2 {tg : Expr} {lo hi : Int} {k : Kd} (C : Cxf X N sc) (hg : sc.names.lookup ("range" : Str) = some .globalImplicit) (hm : X.mg "range" = none) (ha : EX X G a pa lo k) (hb : EX X G b pb hi k) {p1 : Prop} (c1 : Cmb pa pb p1) (c2 : Cmb p1 (RgOk lo ∧ RgOk hi) p)
    (hs : starEach [a, b] X.env = [(false, eval a X.env), (false, eval b X.env)] := by rfl) (hs2 : starEach [b] X.env = [(false, eval b X.env)] := by rfl) :
    IX X G tg (.Call (.Name "range" ppos) [a, b] [] pos) p (pyRange lo (hi - lo).toNat) := by
  obtain ⟨ta, a1, a2⟩ := ax2 ha hb c1 (by rw [hs, hs2]) hs2
  refine ⟨_, pi_range2 (C.gl hg) hm a1 hs hs2, fun σ H F R Rl hp k => ?_⟩
  obtain ⟨hpa, hpr⟩ := c2.out hp
  refine a2 σ H F _ Rl hpa fun vs H1 fp s1 r1 k1 => ?_
  obtain ⟨v, v2, _, _, rfl, r2, r3, _⟩ := r1.two
  obtain ⟨rfl, _⟩ := r2.int_inv
  obtain ⟨rfl, _⟩ := r3.int_inv
  refine ⟨lo, hi, rfl, ⟨hpr.1.1, hpr.1.2, hpr.2.1, hpr.2.2⟩, k _ H1 [] (fun _ => True) s1 (fun _ h => nomatch h) (fun _ h => nomatch h) (fun _ _ _ _ _ _ _ _ => ⟨trivial, (fun _ h => nomatch h)⟩) trivial ?_⟩
  rw [pyRange_len]
  exact (walk_range (lo := lo) (n := (hi - lo).toNat)).mono (fun _ h => h) fun i H x H' hi _ y => by
    obtain ⟨e1, e2⟩ := y
    subst e1 e2
    exact ⟨Same.refl _, [], _, pyRange_get hi, .int _, fun _ h => nomatch h⟩
/-- enumerate(xs) -/
def pyEnum {t : Type} (xs : List t) : List (Int × t) := xs.zipIdx.map fun q => ((q.2 : Int), q.1)
theorem pyEnum_len {t : Type} (xs : List t) : (pyEnum xs).length = xs.length := by simp [pyEnum]
theorem pyEnum_get {t : Type} {xs : List t} {i : Nat} (h : i < xs.length) : (pyEnum xs)[i]? = some ((i : Int), xs[i]) := by simp [pyEnum, h]
theorem ix_enum {t : Type} [Enc t] {xs : List t} {elts : List Expr} {kk : Nat} {tpos : Pos} (C : Cxf X N sc) (hg : sc.names.lookup ("enumerate" : Str) = some .globalImplicit) (hm : X.mg "enumerate" = none) (ha : EX X G a p xs .shr) (hs : starEach [a] X.env = [(false, eval a X.env)] := by rfl) :
    IX X G (.Tuple elts kk tpos) (.Call (.Name "enumerate" ppos) [a] [] pos) p (pyEnum xs) := by
  obtain ⟨ta, a1, a2⟩ := ax1 (p := p) ha hs
  refine ⟨_, pi_enum (C.gl hg) hm a1 hs, fun σ H F R Rl hp k => ?_⟩
  refine a2 σ H F _ Rl hp fun vs H1 fp s1 r1 k1 => ?_
  obtain ⟨v, rfl, r2⟩ := r1.one
  obtain ⟨l, ws, fp', rfl, h1, rs, e⟩ := r2.lst_inv'
  refine ⟨l, ws, rfl, SqL.of h1, k _ H1 fp (fun H => Rep X.K H fp (.ref l) (enc xs)) s1 k1 (fun a ha => r2.there ha) pst_rep r2 ?_⟩
  rw [pyEnum_len]
  refine ⟨fun i H hi g => ?_, fun H g => ?_, fun i H x H' hi g y => ?_⟩
  · obtain ⟨l', vs', f', e1, h', rs', _⟩ := g.lst_inv'
    injection e1 with e1
    subst e1
    have hl := rs'.length
    rw [List.length_map] at hl
    exact (walk_enum (K := X.K) (a := l) (xs := vs')).goes i H (by omega) (SqL.of h')
  · obtain ⟨l', vs', f', e1, h', rs', _⟩ := g.lst_inv'
    injection e1 with e1
    subst e1
    have hl := rs'.length
    rw [List.length_map] at hl
    rw [← hl]
    exact (walk_enum (K := X.K) (a := l) (xs := vs')).stops H (SqL.of h')
  · obtain ⟨l', vs', f', e1, h', rs', ef⟩ := g.lst_inv'
    injection e1 with e1
    subst e1
    have hl := rs'.length
    rw [List.length_map] at hl
    obtain ⟨T, x1, x2, e2, hn, e3, e4, e5⟩ := (walk_enum (K := X.K) (a := l) (xs := vs')).yields i H x H' (by omega) (SqL.of h') y
    subst e2 e3
    have e4 := Option.some.inj e4
    subst e4
    obtain ⟨u, fu, e6, ru, su, _⟩ := rs'.get (i := i) (d := enc xs[i]) (by simp [hi])
    have e5 : vs'[i]? = some x2 := e5
    rw [e5] at e6
    have e7 := Option.some.inj e6
    subst e7
    refine ⟨Same.upd hn, fu, _, pyEnum_get hi, ?_, fun a ha => by rw [ef]; exact List.mem_cons_of_mem _ (su a ha)⟩
    have rt := Reps.cons (K := X.K) (Rep.int (K := X.K) (H := H) (i : Int)) (.cons ru .nil)
    rw [List.append_nil, List.nil_append] at rt
    exact .tup (SqT.of upd_same) (rt.same (Same.upd hn))
end
end BW

set_option Elab.async false
set_option linter.all false
set_option maxRecDepth 100000
set_option maxHeartbeats 4000000
/-! Targets; comprehensions. -/
namespace BW
open PySem L2

structure Vs (X : Cx) (N : List Str) (sc : Scope) (i : Nat) (x : Str) : Prop where
  ix : N[i]? = some x
  loc : Loc sc x
  fn : X.fn x = true ∨ sc.names.lookup x = some .local
theorem Vs.local {X : Cx} {N : List Str} {sc : Scope} {i : Nat} {x : Str} (h : N[i]? = some x) (l : sc.names.lookup x = some .local) : Vs X N sc i x := ⟨h, .inl l, .inr l⟩
theorem Vs.cell {X : Cx} {N : List Str} {sc : Scope} {i : Nat} {x : Str} (h : N[i]? = some x) (l : sc.names.lookup x = some .cell) (f : X.fn = fun _ => true) : Vs X N sc i x := ⟨h, .inr l, .inl (by rw [f])⟩

def notOwn (G : Gam) (is : List Nat) : Bool := is.all fun i => match G[i]? with | some (.val true _) => false | _ => true
theorem notOwn_at {G : Gam} {is : List Nat} (h : notOwn G is = true) {i : Nat} (hi : i ∈ is) {d : D} (e : G[i]? = some (.val true d)) : False := by
  have q := List.all_eq_true.mp h i hi
  rw [e] at q
  cases q
/-- a target: what it makes of the slots; is: the slots that it writes -/
def TGT (X : Cx) (n : Nat) (tg : Expr) (is : List Nat) {t : Type} [Enc t] (T : Gam → t → Gam) : Prop :=
  ∃ g, PG X tg g ∧ ∀ (G : Gam) (x : t) v σ H F fp (Q : St → Hp → Prop), G.length = n → Rel X.K G σ H F → Rep X.K H fp v (enc x) → (∀ a ∈ fp, ¬ InO G F a) →
    (∀ σ' F', (T G x).length = n → Rel X.K (T G x) σ' H F' → Frm (InO G F) H (InO (T G x) F') H → (notOwn G is = true → ∀ a, InO G F a → InO (T G x) F' a) → (∀ a, InS (T G x) F' a → InS G F a ∨ a ∈ fp) → (∀ a, InO (T G x) F' a → InO G F a) → (∀ j, j ∉ is → σ'[j]? = σ[j]?) → σ'.length = σ.length → Q σ' H) → g v σ H Q
section
variable {X : Cx} {G : Gam} {N : List Str} {sc : Scope} {e a b c : Expr} {es : List Expr} {p pa pb pr q : Prop} {pos ppos : Pos}
theorem Frm.refl {O : Addr → Prop} {H : Hp} : Frm O H O H := fun _ _ h n => ⟨h, n⟩
theorem tg_name {t : Type} [Enc t] {y : Str} (C : Cxf X N sc) (i : Nat) (V : Vs X N sc i y) : TGT X N.length (.Name y pos) [i] (fun G (x : t) => G.set i (.val false (enc x))) := by
  have hi : i < N.length := (List.getElem?_eq_some_iff.mp V.ix).1
  refine ⟨gName i, pg_name (by rw [C.hN]; exact C.nd) (by rw [C.hN]; exact V.ix) (by rw [C.hs]; exact V.loc) (by rw [C.hs]; exact V.fn), fun G x v σ H F fp Q hl R r n k => ?_⟩
  obtain ⟨h1, h2⟩ := R.put (i := i) (m := false) (Same.refl H) r (by rw [hl]; exact hi) n
  refine k _ _ (by rw [List.length_set]; exact hl) h1 h2 (fun hn a ⟨j, d, e, ha⟩ => ?_) (fun a ⟨j, d, e, ha⟩ => ?_) (fun a ⟨j, d, e, ha⟩ => ?_) (fun j hj => ?_) (by rw [List.length_set])
  · have hj : j ≠ i := fun z => by subst z; exact notOwn_at hn (by simp) e
    exact ⟨j, d, by rw [List.getElem?_set_ne (Ne.symm hj)]; exact e, by rw [updF_ne hj]; exact ha⟩
  · by_cases hj : j = i
    · subst hj; rw [updF_same] at ha; exact .inr ha
    · rw [updF_ne hj] at ha; exact .inl ⟨j, d, set_ne hj e, ha⟩
  · by_cases hj : j = i
    · subst hj
      have q := set_eq e
      cases q
    · rw [updF_ne hj] at ha; exact ⟨j, d, set_ne hj e, ha⟩
  · exact List.getElem?_set_ne (fun z => hj (by simp [z]))
/-- targets in a row -/
def TGQ (X : Cx) (n : Nat) (ts : List Expr) (is : List Nat) {t : Type} (ds : t → List D) (T : Gam → t → Gam) : Prop :=
  ∃ g, PGs X ts g ∧ ∀ (G : Gam) (x : t) vs σ H F fp (Q : St → Hp → Prop), G.length = n → Rel X.K G σ H F → Reps X.K H fp vs (ds x) → (∀ a ∈ fp, ¬ InO G F a) →
    (∀ σ' F', (T G x).length = n → Rel X.K (T G x) σ' H F' → Frm (InO G F) H (InO (T G x) F') H → (notOwn G is = true → ∀ a, InO G F a → InO (T G x) F' a) → (∀ a, InS (T G x) F' a → InS G F a ∨ a ∈ fp) → (∀ a, InO (T G x) F' a → InO G F a) → (∀ j, j ∉ is → σ'[j]? = σ[j]?) → σ'.length = σ.length → Q σ' H) → g vs σ H Q
theorem tgs_nil {n : Nat} {t : Type} : TGQ X n [] [] (fun _ : t => []) (fun G _ => G) :=
  ⟨gNil, pgs_nil, fun G x vs σ H F fp Q hl R r _ k => by
    cases r
    exact ⟨rfl, k σ F hl R Frm.refl (fun _ _ h => h) (fun _ h => .inl h) (fun _ h => h) (fun _ _ => rfl) rfl⟩⟩
theorem tgs_cons {n : Nat} {t u : Type} [Enc u] {is js : List Nat} {f : t → u} {ds : t → List D} {T : Gam → u → Gam} {T2 : Gam → t → Gam} (h1 : TGT X n e is T) (h2 : TGQ X n es js ds T2) (hk : ∀ G x, notOwn G (is ++ js) = true → notOwn (T G (f x)) js = true)
    (hs : (assignEach (e :: es) X.env).map (·.2) = assign e X.env :: (assignEach es X.env).map (·.2) := by rfl) : TGQ X n (e :: es) (is ++ js) (fun x => enc (f x) :: ds x) (fun G x => T2 (T G (f x)) x) := by
  obtain ⟨g1, a1, a2⟩ := h1
  obtain ⟨g2, b1, b2⟩ := h2
  refine ⟨_, pgs_cons a1 b1 hs, fun G x vs σ H F fp Q hl R r n k => ?_⟩
  cases r with
  | cons r1 r2 =>
    refine ⟨_, _, rfl, a2 G (f x) _ σ H F _ _ hl R r1 (fun a ha => n a (List.mem_append_left _ ha)) fun σ1 F1 l1 R1 f1 m1 i1 o1 j1 e1 => ?_⟩
    have n2 := (Reps.frm f1 R.lsts r2 fun a ha => n a (List.mem_append_right _ ha)).2
    refine b2 (T G (f x)) x _ σ1 H F1 _ _ l1 R1 r2 n2 fun σ2 F2 l2 R2 f2 m2 i2 o2 j2 e2 => ?_
    refine k σ2 F2 l2 R2 (f1.trans f2) (fun hn a ha => m2 (hk G x hn) a (m1 ?_ a ha)) (fun a ha => ?_) (fun a ha => o1 a (o2 a ha)) (fun j hj => ?_) (e2.trans e1)
    · unfold notOwn at hn ⊢
      rw [List.all_append, Bool.and_eq_true] at hn
      exact hn.1
    · rcases i2 a ha with z | z
      · exact (i1 a z).imp id fun z => List.mem_append_left _ z
      · exact .inr (List.mem_append_right _ z)
    · rw [List.mem_append] at hj
      rw [j2 j (fun z => hj (.inr z)), j1 j (fun z => hj (.inl z))]
theorem tg_tup {n m : Nat} {kk : Nat} {t : Type} [Enc t] {is : List Nat} {ds : t → List D} {T : Gam → t → Gam} (C : Cxf X N sc) (h : TGQ X n es is ds T) (hx : ∀ x : t, enc x = .tup (ds x)) (hm : ∀ x, (ds x).length = m)
    (hn : (assignEach es X.env).length = m := by rfl) (hst : (assignEach es X.env).findIdx? (·.1) = none := by rfl) : TGT X n (.Tuple es kk pos) is T := by
  obtain ⟨g, a1, a2⟩ := h
  refine ⟨_, pg_tup C.calm a1 hn hst, fun G x v σ H F fp Q hl R r n k => ?_⟩
  rw [hx] at r
  obtain ⟨l, vs, rfl, hq, rs⟩ := r.tup_inv
  exact ⟨l, vs, rfl, hq, by rw [rs.length, hm], a2 G x vs σ H F fp Q hl R rs n k⟩
/-! a, b = a list -/
theorem draw_list {prog : Program} {w : World} {A : Around} {E : Value → Shared → Prop} {it l : Addr} {items : Array Value} (hne : l ≠ it) : ∀ (n i : Nat) (s : Shared) (Q : List Value → Shared → Prop), s.heap.IsListIter it l i → s.heap.IsList l items → i + n ≤ items.size →
    (∀ h', h'.IsListIter it l (i + n) → Heap.SameBut it s.heap h' → Q ((items.toList.drop i).take n) { s with heap := h' }) → wpAny (model prog w) A (draw (.ref it) n) Q E s
  | 0, i, s, Q, hit, _, _, hQ => by
    show wpAny _ _ (pure []) Q E s
    exact wpAny_pure (by simpa using hQ s.heap hit (Heap.SameBut.refl ..))
  | n + 1, i, s, Q, hit, ht, hle, hQ => by
    have hlt : i < items.size := by omega
    show wpAny _ _ (pyNext (.ref it) >>= _) Q E s
    refine wpAny_bind (wpAny_pyNext_list_item hit ht (x := items[i]) (by simp [hlt]) fun h₁ hit₁ hs₁ => ?_)
    refine wpAny_bind (wpAny_holding (draw_list hne n (i + 1) _ _ hit₁ (ht.extBut hs₁.extBut hne) (by omega) fun h₂ hit₂ hs₂ => wpAny_pure ?_))
    have hd : items.toList.drop i = items[i] :: items.toList.drop (i + 1) := by simp [List.drop_eq_getElem_cons, hlt]
    have := hQ h₂ (by rw [show i + (n + 1) = i + 1 + n by omega]; exact hit₂) (hs₁.trans hs₂)
    rw [hd, List.take_succ_cons] at this
    exact this
theorem unpackItems_list {prog : Program} {w : World} {A : Around} {E : Value → Shared → Prop} {s : Shared} {t : Addr} {items : Array Value} {Q : List Value → Shared → Prop} (hh : A.handled = none) (ht : s.heap.IsList t items)
    (hQ : ∀ h', Heap.ExtBut s.heap.objs.size s.heap h' → Q items.toList { s with heap := h' }) : wpAny (model prog w) A (unpackItems (.ref t) items.size none) Q E s := by
  have hlt : t ≠ s.heap.objs.size := by obtain ⟨o, ho, _⟩ := ht; exact Nat.ne_of_lt (Heap.lt_size ho)
  unfold unpackItems
  refine wpAny_bind ?_
  · unfold notIterableAtAll
    refine wpAny_bind (wpAny_specialOf ht.typeIs slot_list_iter.lookup ?_)
    refine wpAny_pure ?_
    simp only [Bool.false_eq_true, if_false]
    refine wpAny_bind (wpAny_holding (wpAny_pyIter_list ht ?_))
    refine wpAny_bind (wpAny_holding (draw_list hlt items.size 0 _ _ ⟨_, Heap.get?_push_size _ rfl, rfl, rfl⟩ (ht.push _) (by omega) fun h₁ hit₁ hs₁ => ?_))
    have hall : List.take items.size (List.drop 0 items.toList) = items.toList := by
      rw [List.drop_zero]; exact List.take_of_length_le (by simp)
    rw [hall]
    rw [if_neg (by simp)]
    have ht₁ : h₁.IsList t items := (ht.push _).extBut hs₁.extBut hlt
    refine wpAny_bind (wpAny_holding (wpAny_pyNext_list_end hh hit₁ ht₁ (by simp) fun h₂ he₂ => ?_))
    simp only [Option.isSome_none, Bool.false_eq_true, if_false]
    refine wpAny_pure (hQ h₂ fun b o hb e => he₂ b o hb (hs₁.extBut b o hb (Heap.get?_push_of_some _ e)))
theorem assign_Tuple_list {prog : Program} {w : World} {A : Around} {E : Value → Shared → Prop} {s : Shared} {env : PySem.Env} {elts : List Expr} {x1} {pos : Pos} {t : Addr} {items : Array Value} {Q : Unit → Shared → Prop} (hh : A.handled = none) (ht : s.heap.IsList t items)
    (hn : (assignEach elts env).length = items.size) (hstar : (assignEach elts env).findIdx? (·.1) = none)
    (h : ∀ h', Heap.ExtBut s.heap.objs.size s.heap h' → wpAny (model prog w) A (assignInOrder ((assignEach elts env).map (·.2)) items.toList) Q E { s with heap := h' }) :
    wpAny (model prog w) A (assign (.Tuple elts x1 pos) env (.ref t)) Q E s := by
  rw [PyProof.Rows.assign_Tuple]
  refine wpAny_bind (wpAny_standAt ?_)
  unfold unpack
  rw [hn, hstar]
  exact wpAny_bind (wpAny_holding (unpackItems_list hh ht h))
def gLst (K : PySem.W.Frag) (n : Nat) (t : TGs) : TG := fun v σ H Q => ∃ a xs, v = .ref a ∧ SqL K H a xs ∧ xs.length = n ∧ t xs σ H Q
theorem pg_lst {k : Nat} {t : TGs} {n : Nat} (hc : X.calm = true) (h : PGs X es t)
    (hn : (assignEach es X.env).length = n := by rfl) (hst : (assignEach es X.env).findIdx? (·.1) = none := by rfl) : PG X (.Tuple es k pos) (gLst X.K n t) := by
  refine ⟨fun pins s σ H v u Q I r hw => ?_⟩
  obtain ⟨a, xs, e1, hq, hl, hw⟩ := hw
  subst e1
  cases r
  obtain ⟨its, rv, ht, hz⟩ := I.list hq
  refine assign_Tuple_list (I.ok.hd hc) ht.isList (by simp [hn, ← hl, rv.length]) hst fun h' hx => ?_
  have I1 : Inv X pins σ H { s with heap := h' } := I.kept (t' := s.toks) fun b o e => hx b o (Nat.ne_of_lt (Heap.lt_size e)) e
  exact h.run pins _ σ H xs _ Q I1 (by simpa using rv) hw
/-- a, b, c = xs, xs a list of m items -/
theorem tg_lst {n m : Nat} {kk : Nat} {t : Type} [Enc t] {is : List Nat} {T : Gam → List t → Gam} {ds : List t → List D} (C : Cxf X N sc) (h : TGQ X n es is ds T) (hx : ∀ xs : List t, xs.length = m → xs.map enc = ds xs)
    (hn : (assignEach es X.env).length = m := by rfl) (hst : (assignEach es X.env).findIdx? (·.1) = none := by rfl) :
    ∃ g, PG X (.Tuple es kk pos) g ∧ ∀ (G : Gam) (x : List t) v σ H F fp (Q : St → Hp → Prop), x.length = m → G.length = n → Rel X.K G σ H F → Rep X.K H fp v (enc x) → (∀ a ∈ fp, ¬ InO G F a) →
      (∀ σ' F', (T G x).length = n → Rel X.K (T G x) σ' H F' → Frm (InO G F) H (InO (T G x) F') H → (notOwn G is = true → ∀ a, InO G F a → InO (T G x) F' a) → (∀ a, InS (T G x) F' a → InS G F a ∨ a ∈ fp) → (∀ a, InO (T G x) F' a → InO G F a) → (∀ j, j ∉ is → σ'[j]? = σ[j]?) → σ'.length = σ.length → Q σ' H) → g v σ H Q := by
  obtain ⟨g, a1, a2⟩ := h
  refine ⟨_, pg_lst C.calm a1 hn hst, fun G x v σ H F fp Q hm hl R r n k => ?_⟩
  obtain ⟨l, vs, fp', rfl, hq, rs, sub⟩ := r.lst_inv
  have e := rs.length
  rw [List.length_map, hm] at e
  rw [hx x hm] at rs
  exact ⟨l, vs, rfl, hq, e, a2 G x vs σ H F fp' Q hl R rs (fun a ha => n a (sub a ha)) fun σ' F' l1 R1 f1 m1 i1 o1 j1 e1 => k σ' F' l1 R1 f1 m1 (fun a ha => (i1 a ha).imp id fun z => sub a z) o1 j1 e1⟩

/-! ### comprehensions -/
def wipeG (G : Gam) : List Nat → Gam
  | [] => G
  | v :: vs => (wipeG G vs).set v .no
theorem wipeG_len (G : Gam) : ∀ vs : List Nat, (wipeG G vs).length = G.length
  | [] => rfl
  | v :: vs => by unfold wipeG; rw [List.length_set, wipeG_len G vs]
theorem wipe_at {σ : St} {j : Nat} : ∀ {vs : List Nat}, j ∉ vs → (wipe σ vs)[j]? = σ[j]?
  | [], _ => rfl
  | v :: vs, h => by
    unfold wipe
    rw [List.mem_cons, not_or] at h
    rw [List.getElem?_set_ne (Ne.symm h.1), wipe_at h.2]
theorem wipe_in {σ : St} {j : Nat} : ∀ {vs : List Nat}, j ∈ vs → j < σ.length → (wipe σ vs)[j]? = some none
  | [], h, _ => nomatch h
  | v :: vs, h, hl => by
    unfold wipe
    by_cases e : v = j
    · subst e; rw [List.getElem?_set_self (by rw [wipe_length]; exact hl)]
    · rw [List.getElem?_set_ne e]
      exact wipe_in ((List.mem_cons.mp h).elim (fun z => absurd z.symm e) id) hl
theorem wipe_ext {a b : St} {vs : List Nat} (hl : a.length = b.length) (h : ∀ j, j ∉ vs → a[j]? = b[j]?) : wipe a vs = wipe b vs := by
  apply List.ext_getElem?
  intro j
  by_cases hj : j ∈ vs
  · by_cases hl' : j < a.length
    · rw [wipe_in hj hl', wipe_in hj (by rw [← hl]; exact hl')]
    · rw [List.getElem?_eq_none (by rw [wipe_length]; omega), List.getElem?_eq_none (by rw [wipe_length]; omega)]
  · rw [wipe_at hj, wipe_at hj, h j hj]
theorem wipe_wipe {σ : St} {vs : List Nat} : wipe (wipe σ vs) vs = wipe σ vs := wipe_ext (wipe_length _ _) fun j hj => wipe_at hj
theorem wipeG_get {G : Gam} {i : Nat} {m : Bool} {d : D} : ∀ {vs : List Nat}, (wipeG G vs)[i]? = some (.val m d) → G[i]? = some (.val m d) ∧ i ∉ vs
  | [], h => ⟨h, by simp⟩
  | v :: vs, h => by
    unfold wipeG at h
    by_cases e : v = i
    · subst e
      have := set_eq h
      cases this
    · rw [List.getElem?_set_ne e] at h
      obtain ⟨h1, h2⟩ := wipeG_get h
      exact ⟨h1, by simp only [List.mem_cons, not_or]; exact ⟨fun z => e z.symm, h2⟩⟩
theorem wipeG_ex {G : Gam} {i : Nat} {a : Addr} : ∀ {vs : List Nat}, (wipeG G vs)[i]? = some (.exc a) → G[i]? = some (.exc a) ∧ i ∉ vs
  | [], h => ⟨h, by simp⟩
  | v :: vs, h => by
    unfold wipeG at h
    by_cases e : v = i
    · subst e
      have := set_eq h
      cases this
    · rw [List.getElem?_set_ne e] at h
      obtain ⟨h1, h2⟩ := wipeG_ex h
      exact ⟨h1, by simp only [List.mem_cons, not_or]; exact ⟨fun z => e z.symm, h2⟩⟩
theorem wipeG_at {G : Gam} {i : Nat} : ∀ {vs : List Nat}, i ∉ vs → (wipeG G vs)[i]? = G[i]?
  | [], _ => rfl
  | v :: vs, h => by
    unfold wipeG
    rw [List.mem_cons, not_or] at h
    rw [List.getElem?_set_ne (Ne.symm h.1), wipeG_at h.2]
theorem Rel.wipe {K : PySem.W.Frag} {σ : St} {H : Hp} {F : Nat → List Addr} (R : Rel K G σ H F) (vs : List Nat) : Rel K (wipeG G vs) (L2.wipe σ vs) H F :=
  ⟨by rw [wipe_length, wipeG_len, R.len], fun i m d e => by
    obtain ⟨h1, h2⟩ := wipeG_get e
    rw [wipe_at h2]
    exact R.rep i m d h1, fun i d e => R.nd i d (wipeG_get e).1, fun i j d m d' n e e' => R.dj i j d m d' n (wipeG_get e).1 (wipeG_get e').1, fun i a e => by
    obtain ⟨h1, h2⟩ := wipeG_ex e
    rw [wipe_at h2]
    exact R.ex i a h1⟩
theorem InO.wipe {F : Nat → List Addr} {vs : List Nat} (h : notOwn G vs = true) {a : Addr} : InO (wipeG G vs) F a ↔ InO G F a :=
  ⟨fun ⟨i, d, e, ha⟩ => ⟨i, d, (wipeG_get e).1, ha⟩, fun ⟨i, d, e, ha⟩ => ⟨i, d, by rw [wipeG_at fun z => notOwn_at h z e]; exact e, ha⟩⟩
theorem notOwn_wipe {vs is : List Nat} (h : ∀ i ∈ is, i ∈ vs) : notOwn (wipeG G vs) is = true := List.all_eq_true.mpr fun i hi => by
  cases e : (wipeG G vs)[i]? with
  | none => rfl
  | some s =>
    cases s with
    | no => rfl
    | val m d => exact absurd (h i hi) (wipeG_get e).2
    | exc a => exact absurd (h i hi) (wipeG_ex e).2

theorem Cxf.blk (C : Cxf X N sc) (s : Shared) (H : Hp) (scope : Scope) (D : Addr) (cl : List (Str × Addr)) (fp : List Addr) : Cxf (X.blk s H scope (compEnvC scope cl D X.env) fp) N (relS scope sc) :=
  ⟨⟨C.hN, by show relS scope X.env.scope = _; rw [C.hs], C.nd⟩, C.calm⟩

/-- what a comprehension asks of its items -/
inductive CmbA {t : Type} (xs : List t) (b : t → Bool) : (t → Prop) → (t → Prop) → Prop → Prop
  | t : CmbA xs b (fun _ => True) (fun _ => True) True
  | e (pe : t → Prop) : CmbA xs b (fun _ => True) pe (∀ x ∈ xs, b x = true → pe x)
  | g (pt pe : t → Prop) : CmbA xs b pt pe (∀ x ∈ xs, pt x ∧ (b x = true → pe x))
theorem CmbA.out {t : Type} {xs : List t} {b : t → Bool} {pt pe : t → Prop} {p : Prop} (c : CmbA xs b pt pe p) (h : p) : ∀ x ∈ xs, pt x ∧ (b x = true → pe x) := by
  cases c
  · exact fun _ _ => ⟨trivial, fun _ => trivial⟩
  · exact fun x hx => ⟨trivial, h x hx⟩
  · exact h
def LenOk (n : Nat) : Prop := n ≤ sizeLine
/-- a clause's tests -/
def TsX (X : Cx) (G : Gam) (ifs : List Expr) (p : Prop) (b : Bool) : Prop :=
  ∃ tt, PTs X ifs tt ∧ ∀ σ H F (Q : Bool → Hp → Prop), Rel X.K G σ H F → p → (∀ H', Same H H' → Q b H') → tt σ H Q
/-- [elt for tg in iter if ..]: everything that its two forms need -/
structure LCX (X : Cx) (N : List Str) (sc : Scope) (G : Gam) (elt tg iter : Expr) (ifs : List Expr) (scope : Scope) (own : List (Str × Nat)) (p : Prop) {u : Type} [Enc u] (ys : List u) (k : Kd) : Prop where
  ex : ∃ (wi : TI) (g : TG) (tt : TT) (te : TE), PI X tg iter wi ∧ BlkOk X.N X.env.scope scope own ∧
    (∀ (s : Shared) (H : Hp) (C : Addr) (cl : List (Str × Addr)) (fp : List Addr), PG (X.blk s H scope (compEnvC scope cl C X.env) fp) tg g) ∧
    (∀ (s : Shared) (H : Hp) (C : Addr) (cl : List (Str × Addr)) (fp : List Addr), PTs (X.blk s H scope (compEnvC scope cl C X.env) fp) ifs tt) ∧
    (∀ (s : Shared) (H : Hp) (C : Addr) (cl : List (Str × Addr)) (fp : List Addr), PE (X.blk s H scope (compEnvC scope cl C X.env) fp) elt te) ∧
    ∀ σ H F (Q : VK), Rel X.K G σ H F → p → (∀ v H' fp, Same H H' → Rep X.K H' fp v (enc ys) → KdOk k (InS G F) H fp → Q v H') → tLc wi g tt te (own.map (·.2)) σ H Q

/-! the readings by themselves: one for all contexts, items, states -/
def teC (K : PySem.W.Frag) {I t : Type} [Enc t] (Gx : I → Gam) (px : I → Prop) (fx : I → t) (k : Kd) : TE := fun σ H Q => ∃ (x : I) (F : Nat → List Addr), Rel K (Gx x) σ H F ∧ px x ∧ ∀ v H' fp, Same H H' → Rep K H' fp v (enc (fx x)) → KdOk k (InS (Gx x) F) H fp → Q v H'
theorem EX.canon {I t : Type} [Enc t] {Gx : I → Gam} {px : I → Prop} {fx : I → t} {k : Kd} (h : ∀ x, EX X (Gx x) e (px x) (fx x) k) : PE X e (teC X.K Gx px fx k) := by
  refine ⟨fun pins s σ H Q I hw => ?_⟩
  obtain ⟨x, F, R, hp, q⟩ := hw
  obtain ⟨te, h1, h2⟩ := h x
  exact h1.run pins s σ H Q I (h2 σ H F Q R hp q)
def tsC (K : PySem.W.Frag) {I : Type} (Gx : I → Gam) (px : I → Prop) (bx : I → Bool) : TT := fun σ H Q => ∃ (x : I) (F : Nat → List Addr), Rel K (Gx x) σ H F ∧ px x ∧ ∀ H', Same H H' → Q (bx x) H'
theorem TsX.canon {ifs : List Expr} {I : Type} {Gx : I → Gam} {px : I → Prop} {bx : I → Bool} (h : ∀ x, TsX X (Gx x) ifs (px x) (bx x)) : PTs X ifs (tsC X.K Gx px bx) := by
  refine ⟨fun pins s σ H Q I hw => ?_⟩
  obtain ⟨x, F, R, hp, q⟩ := hw
  obtain ⟨te, h1, h2⟩ := h x
  exact h1.run pins s σ H Q I (h2 σ H F Q R hp q)
theorem TX.canon {I : Type} {Gx : I → Gam} {px : I → Prop} {bx : I → Bool} (h : ∀ x, TX X (Gx x) e (px x) (bx x)) : PT X e (tsC X.K Gx px bx) := by
  refine ⟨fun pins s σ H Q I hw => ?_⟩
  obtain ⟨x, F, R, hp, q⟩ := hw
  obtain ⟨te, h1, h2⟩ := h x
  exact h1.run pins s σ H Q I (h2 σ H F Q R hp q)
theorem tsx_nil : TsX X G [] True true := ⟨_, pts_nil, fun _ H _ _ _ _ k => k H (Same.refl _)⟩
theorem tsx_one {bb : Bool} (h : TX X G c p bb) : TsX X G [c] p bb := by
  obtain ⟨t, h1, h2⟩ := h
  exact ⟨_, pts_one h1, h2⟩
def gC (K : PySem.W.Frag) (n : Nat) (is : List Nat) {t : Type} [Enc t] (T : Gam → t → Gam) : TG := fun v σ H Q => ∃ (G : Gam) (x : t) (F : Nat → List Addr) (fp : List Addr), G.length = n ∧ Rel K G σ H F ∧ Rep K H fp v (enc x) ∧ (∀ a ∈ fp, ¬ InO G F a) ∧
    (∀ σ' F', (T G x).length = n → Rel K (T G x) σ' H F' → Frm (InO G F) H (InO (T G x) F') H → (notOwn G is = true → ∀ a, InO G F a → InO (T G x) F' a) → (∀ a, InS (T G x) F' a → InS G F a ∨ a ∈ fp) → (∀ a, InO (T G x) F' a → InO G F a) → (∀ j, j ∉ is → σ'[j]? = σ[j]?) → σ'.length = σ.length → Q σ' H)
theorem TGT.canon {n : Nat} {tg : Expr} {is : List Nat} {t : Type} [Enc t] {T : Gam → t → Gam} (h : TGT X n tg is T) : PG X tg (gC X.K n is T) := by
  obtain ⟨g, h1, h2⟩ := h
  refine ⟨fun pins s σ H v u Q I r hw => ?_⟩
  obtain ⟨G, x, F, fp, hl, R, rp, n, k⟩ := hw
  exact h1.run pins s σ H v u Q I r (h2 G x v σ H F fp Q hl R rp n k)

theorem lcx {t u : Type} [Enc t] [Enc u] {xs : List t} {f : t → u} {bb : t → Bool} {pI pF pL : Prop} {pt pe : t → Prop} {elt tg iter : Expr} {ifs : List Expr} {scope : Scope} {own : List (Str × Nat)} {is : List Nat} {T : Gam → t → Gam} {k : Kd} (C : Cxf X N sc) (hk : k ≠ .any)
    (hG : G.length = N.length) (hI : IX X G tg iter pI xs) (ok : BlkOk N sc scope own) (hno : notOwn G (own.map (·.2)) = true) (his : ∀ i ∈ is, i ∈ own.map (·.2))
    (hT : ∀ (s : Shared) (H : Hp) (D : Addr) (cl : List (Str × Addr)) (fp : List Addr), TGT (X.blk s H scope (compEnvC scope cl D X.env) fp) N.length tg is T)
    (ht : ∀ (s : Shared) (H : Hp) (D : Addr) (cl : List (Str × Addr)) (fp : List Addr) (x : t), TsX (X.blk s H scope (compEnvC scope cl D X.env) fp) (T (wipeG G (own.map (·.2))) x) ifs (pt x) (bb x))
    (he : ∀ (s : Shared) (H : Hp) (D : Addr) (cl : List (Str × Addr)) (fp : List Addr) (x : t), EX (X.blk s H scope (compEnvC scope cl D X.env) fp) (T (wipeG G (own.map (·.2))) x) elt (pe x) (f x) k)
    (c1 : CmbA xs bb pt pe pF) (c2 : Cmb pI pF pL) : LCX X N sc G elt tg iter ifs scope own (pL ∧ LenOk xs.length) ((xs.filter bb).map f) k := by
  obtain ⟨wi, hI1, hI2⟩ := hI
  refine ⟨wi, gC X.K N.length is T, tsC X.K (fun x => T (wipeG G (own.map (·.2))) x) pt bb, teC X.K (fun x => T (wipeG G (own.map (·.2))) x) pe f k, hI1, by rw [C.hN, C.hs]; exact ok,
    fun s H D cl fp => (hT s H D cl fp).canon, fun s H D cl fp => TsX.canon (ht s H D cl fp), fun s H D cl fp => EX.canon (he s H D cl fp), fun σ H F Q R hp q => ?_⟩
  obtain ⟨hp0, hlen⟩ := hp
  obtain ⟨hpI, hpF⟩ := c2.out hp0
  have hx := c1.out hpF
  refine hI2 σ H F _ R hpI fun J H1 nodes Gd s1 n1 n2 ps g1 w => ?_
  intro D hD
  have gS : ∀ {Ha Hb : Hp}, Same Ha Hb → Gd Ha → Gd Hb := fun sab g => (ps _ _ (fun _ => False) _ (Same.frm sab) (fun _ z => z.elim) (fun _ _ z => z) g).1
  refine lc_it w (fun i Hi => ∃ acc fpa, Hi D = some (.lst acc) ∧ Reps X.K Hi fpa acc (((xs.take i).filter bb).map fun x => enc (f x)) ∧ acc.length ≤ i ∧ KdOk k (InS G F) H fpa ∧ D ∉ fpa ∧ Same H1 Hi ∧ Gd Hi) ?_ ?_ ?_ ?_
  · exact ⟨[], [], upd_same, .nil, Nat.le_refl _, KdOk.nil, (by simp), Same.upd hD, gS (Same.upd hD) g1⟩
  · exact fun i Hi _ ⟨_, _, _, _, _, _, _, _, g⟩ => g
  · rintro i x Hi Hi' hi ⟨acc, fpa, hA, rA, lA, kA, dA, sA, gA⟩ ⟨sy, fpx, y, ey, ry, ny⟩
    have gA' : Gd Hi' := gS sy gA
    have sHi' : Same H Hi' := s1.trans (sA.trans sy)
    have R' := (R.same sHi').wipe (own.map (·.2))
    have ym : y ∈ xs := List.mem_of_getElem? ey
    obtain ⟨py1, py2⟩ := hx y ym
    have hA' : Hi' D = some (.lst acc) := sy _ _ hA
    have nO : ∀ a ∈ nodes, ¬ InO G F a := R.shrN n1
    refine ⟨wipeG G (own.map (·.2)), y, F, fpx, by rw [wipeG_len, hG], R', ry, fun a ha z => nO a (ny a ha) ((InO.wipe hno).mp z), fun σ2 F2 l2 R2 f2 m2 i2 o2 j2 e2 => ⟨?_, ?_⟩⟩
    · rw [wipe_ext (b := L2.wipe σ (own.map (·.2))) e2 (fun j hj => j2 j fun z => hj (his j z)), wipe_wipe]
    · have inS : ∀ a, InS (T (wipeG G (own.map (·.2))) y) F2 a → H a = none ∨ InS G F a := fun a ha => by
        rcases i2 a ha with ⟨j, d, e, hj⟩ | z
        · exact .inr ⟨j, d, (wipeG_get e).1, hj⟩
        · exact n1 a (ny a z)
      have etake : (xs.take (i + 1)) = xs.take i ++ [y] := by
        rw [List.take_add_one, ey]; rfl
      refine ⟨y, F2, R2, py1, fun H3 s3 => ?_⟩
      have sH3 : Same H H3 := sHi'.trans s3
      have hD3 : H3 D = some (.lst acc) := s3 _ _ hA'
      have dH : ∀ a, H a = none ∨ InS G F a → a ≠ D ∨ H a = none := fun a h => h.elim .inr fun z => .inl fun e => by
        subst e
        obtain ⟨i, d, ei, hi⟩ := z
        obtain ⟨_, _, r⟩ := R.rep i _ _ ei
        exact r.there hi (s1.free hD)
      cases hb : bb y with
      | false =>
        refine iteF ⟨acc, fpa, hD3, ?_, by omega, kA, dA, sA.trans (sy.trans s3), gS s3 gA'⟩
        rw [etake, List.filter_append]
        simp only [List.filter_cons, hb, List.filter_nil, Bool.false_eq_true, if_false, List.append_nil]
        exact (rA.same sy).same s3
      | true =>
        refine iteT ⟨y, F2, R2.same s3, py2 hb, fun v H4 fp s4 r4 k4 => ?_⟩
        have hD4 : H4 D = some (.lst acc) := s4 _ _ hD3
        have kH : KdOk k (InS G F) H fp := by
          cases k with
          | any => trivial
          | shr => exact fun a ha => (k4 a ha).elim (fun z => .inl (sH3.free z)) (inS a)
          | frs => exact ⟨k4.1, fun a ha => sH3.free (k4.2 a ha)⟩
        have nD : D ∉ fp := fun z => by
          cases k with
          | any => exact hk rfl
          | shr =>
            rcases k4 D z with e | e
            · rw [hD3] at e; cases e
            · rcases i2 D e with ⟨j, d, e, hj⟩ | z
              · obtain ⟨_, _, r⟩ := R.rep j _ _ (wipeG_get e).1
                exact r.there hj (s1.free hD)
              · exact n2 D (ny D z) hD
          | frs => have := k4.2 D z; rw [hD3] at this; cases this
        have ra : Reps X.K H4 fpa acc _ := ((rA.same sy).same s3).same s4
        have rb := Reps.cons r4 .nil
        rw [List.append_nil] at rb
        have nd : D ∉ fpa ++ fp := by rw [List.mem_append]; exact fun z => z.elim dA nD
        refine ⟨acc, hD4, by unfold LenOk at hlen; omega, acc ++ [v], fpa ++ fp, upd_same, ?_, by simp; omega, ?_, nd, ?_, ?_⟩
        · rw [etake, List.filter_append, List.map_append]
          simp only [List.filter_cons, hb, List.filter_nil, if_true, List.map_cons, List.map_nil]
          exact (ra.append rb).upd hD4 nd
        · cases k with
          | any => trivial
          | shr => exact fun a ha => (List.mem_append.mp ha).elim (kA a) (kH a)
          | frs =>
            refine ⟨List.nodup_append.mpr ⟨kA.1, kH.1, fun a ha b hb e => ?_⟩, fun a ha => (List.mem_append.mp ha).elim (kA.2 a) (kH.2 a)⟩
            subst e
            exact ((rA.same sy).same s3).there ha (k4.2 a hb)
        · exact fun b o e => by
            have hb : b ≠ D := fun z => by rw [z, hD] at e; cases e
            rw [upd_ne hb]
            exact s4 _ _ (s3 _ _ (sy _ _ (sA _ _ e)))
        · exact (ps (· = D) H4 (· = D) _ (frm_upd (xs := acc)) (fun b e => ⟨_, by rw [e]; exact hD4, .lst acc⟩) (fun a ha e => n2 a ha (by rw [e]; exact hD)) (gS s4 (gS s3 gA'))).1
  · rintro Hn ⟨acc, fpa, hA, rA, lA, kA, dA, sA, gA⟩
    refine q (.ref D) Hn (D :: fpa) (s1.trans sA) ?_ ?_
    · refine .lst hA ?_
      rw [List.take_length] at rA
      rw [List.map_map]
      exact rA
    · cases k with
      | any => trivial
      | shr =>
        intro a ha
        rcases List.mem_cons.mp ha with e | e
        · subst e; exact .inl (s1.free hD)
        · exact kA a e
      | frs =>
        refine ⟨List.nodup_cons.mpr ⟨dA, kA.1⟩, fun a ha => ?_⟩
        rcases List.mem_cons.mp ha with e | e
        · subst e; exact s1.free hD
        · exact kA.2 a e
end
end BW

set_option Elab.async false
set_option linter.all false
set_option maxRecDepth 100000
set_option maxHeartbeats 4000000
/-! Statements. -/
namespace BW
open PySem L2
theorem Reps.revF' {K : PySem.W.Frag} {H : Hp} {ds : List D} : ∀ {fp : List Addr} {vs : List V}, Reps K H fp vs ds → fp = [] → Reps K H [] vs.reverse ds.reverse := by
  induction ds with
  | nil => intro fp vs r _; cases r; exact .nil
  | cons d ds ih =>
    intro fp vs r hf
    cases r with
    | cons h r =>
      obtain ⟨e1, e2⟩ := List.append_eq_nil_iff.mp hf
      subst e1 e2
      rw [List.reverse_cons, List.reverse_cons]
      exact (ih r rfl).append (.cons h .nil)
theorem Reps.revF {K : PySem.W.Frag} {H : Hp} {ds : List D} {vs : List V} (r : Reps K H [] vs ds) : Reps K H [] vs.reverse ds.reverse := r.revF' rfl
theorem Reps.setF' {K : PySem.W.Frag} {H : Hp} {w : V} {d : D} {ds : List D} : ∀ {fp : List Addr} {vs : List V} (j : Nat), Reps K H fp vs ds → fp = [] → Rep K H [] w d → Reps K H [] (vs.set j w) (ds.set j d) := by
  induction ds with
  | nil => intro fp vs j r _ _; cases r; exact .nil
  | cons d' ds ih =>
    intro fp vs j r hf rw'
    cases r with
    | cons h r =>
      obtain ⟨e1, e2⟩ := List.append_eq_nil_iff.mp hf
      subst e1 e2
      cases j with
      | zero => exact .cons rw' r
      | succ j => exact .cons h (ih j r rfl rw')
theorem Reps.setF {K : PySem.W.Frag} {H : Hp} {w : V} {d : D} {ds : List D} {vs : List V} (j : Nat) (r : Reps K H [] vs ds) (q : Rep K H [] w d) : Reps K H [] (vs.set j w) (ds.set j d) := r.setF' j rfl q
section
variable {X : Cx} {G : Gam} {N : List Str} {sc : Scope} {e a b c : Expr} {es : List Expr} {p pa pb pr q : Prop} {pos ppos : Pos}
theorem LCX.ex' {elt tg iter : Expr} {ifs : List Expr} {scope : Scope} {own : List (Str × Nat)} {u : Type} [Enc u] {ys : List u} {k : Kd} (C : Cxf X N sc) (h : LCX X N sc G elt tg iter ifs scope own p ys k) (hs : ∀ x, foldedSetIterable iter X.env x = pure x := by intro _; rfl) :
    EX X G (.ListComp elt [⟨tg, iter, ifs, 0⟩] scope pos) p ys k := by
  obtain ⟨wi, g, tt, te, h1, h2, h3, h4, h5, h6⟩ := h.ex
  exact ⟨_, pe_lc C.calm (by rw [C.hN]; exact C.nd) h1 h2 h3 h4 h5 hs, h6⟩

theorem blt_lt {a b : Nat} (h : Nat.blt a b = true) : a < b := Nat.blt_eq.mp h
/-- let x := v; f x -/
def lt {t : Type} {u : Sort v} (x : t) (f : t → u) : u := f x
/-- how a block ends -/
inductive Out (S B R : Type) where
  | fall (s : S) | brk (b : B) | cnt (b : B) | ret (r : R) | exc (c : Str)
/-- what is done with what is returned -/
class Ret (R : Type) where
  ok : PySem.W.Frag → (Addr → Prop) → Hp → (V → Hp → Prop) → R → Prop
  of : ∀ {K : PySem.W.Frag} {O O' : Addr → Prop} {H H' : Hp} {rt : V → Hp → Prop} {r : R}, ok K O H rt r → Frm O H O' H' → ok K O' H' rt r
theorem Frm.fp {O O' : Addr → Prop} {H H' : Hp} (f : Frm O H O' H') {a : Addr} (h : O' a ∨ H' a = none) : O a ∨ H a = none := by
  by_cases hO : O a
  · exact .inl hO
  · cases e : H a with
    | none => exact .inr rfl
    | some o =>
      obtain ⟨h1, h2⟩ := f a o e hO
      rcases h with h | h
      · exact absurd h h2
      · rw [h1] at h; cases h
instance {R : Type} [Enc R] : Ret R := ⟨fun K O H rt r => ∀ v H' fp, Rep K H' fp v (enc r) → fp.Nodup → (∀ a ∈ fp, O a ∨ H a = none) → Frm O H (fun _ => False) H' → rt v H', fun h f v H2 fp r n k f2 => h v H2 fp r n (fun a ha => f.fp (k a ha)) (f.trans f2)⟩
def OutOk (X : Cx) (W : WX) (G : Gam) (F : Nat → List Addr) (H : Hp) {S B R : Type} [Ret R] (g : S → Gam) (gb : B → Gam) (D : Ends) : Out S B R → Prop
  | .fall s => ∀ σ' H' F', Rel X.K (g s) σ' H' F' → Frm (InO G F) H (InO (g s) F') H' → D.nx σ' H'
  | .brk b => ∀ σ' H' F', Rel X.K (gb b) σ' H' F' → Frm (InO G F) H (InO (gb b) F') H' → D.bk σ' H'
  | .cnt b => ∀ σ' H' F', Rel X.K (gb b) σ' H' F' → Frm (InO G F) H (InO (gb b) F') H' → D.ct σ' H'
  | .ret r => Ret.ok X.K (InO G F) H D.rt r
  | .exc c => ∀ σ' H' u, X.mg c = some u → Frm (InO G F) H (fun _ => False) H' → W u none σ' H'
/-- a block: under p it ends by o -/
def SX (X : Cx) (W : WX) (G : Gam) (ss : List Stmt) (p : Prop) {S B R : Type} [Ret R] (g : S → Gam) (gb : B → Gam) (o : Out S B R) : Prop :=
  ∃ ts, PSs X ss ts ∧ ∀ σ H F (D : Ends), Rel X.K G σ H F → p → OutOk X W G F H g gb D o → ts D σ H
/-- the same of one statement -/
def S1 (X : Cx) (W : WX) (G : Gam) (st : Stmt) (p : Prop) {S B R : Type} [Ret R] (g : S → Gam) (gb : B → Gam) (o : Out S B R) : Prop :=
  ∃ ts, PS X st ts ∧ ∀ σ H F (D : Ends), Rel X.K G σ H F → p → OutOk X W G F H g gb D o → ts D σ H
def tyC (K : PySem.W.Frag) (X : Cx) (W : WX) {I : Type} {S B R : Type} [Ret R] (Gx : I → Gam) (px : I → Prop) (g : S → Gam) (gb : B → Gam) (ox : I → Out S B R) : TS := fun D σ H => ∃ (x : I) (F : Nat → List Addr), Rel K (Gx x) σ H F ∧ px x ∧ OutOk X W (Gx x) F H g gb D (ox x)
theorem SX.canon {W : WX} {ss : List Stmt} {I S B R : Type} [Ret R] {Gx : I → Gam} {px : I → Prop} {g : S → Gam} {gb : B → Gam} {ox : I → Out S B R} (h : ∀ x, SX X W (Gx x) ss (px x) g gb (ox x)) : PSs X ss (tyC X.K X W Gx px g gb ox) := by
  refine ⟨fun pins s σ H D I hw => ?_⟩
  obtain ⟨x, F, R, hp, q⟩ := hw
  obtain ⟨te, h1, h2⟩ := h x
  exact h1.run pins s σ H D I (h2 σ H F D R hp q)

/-- weaker slots -/
inductive Wk : Gam → Gam → Prop
  | z : Wk [] []
  | sm {s : Slot} {G G' : Gam} : Wk G G' → Wk (s :: G) (s :: G')
  | nn {s : Slot} {G G' : Gam} : Wk G G' → Wk (s :: G) (.no :: G')
  | fr {d : D} {G G' : Gam} : Wk G G' → Wk (.val true d :: G) (.val false d :: G')
theorem Wk.get {G G' : Gam} (w : Wk G G') : ∀ {i : Nat} {m : Bool} {d : D}, G'[i]? = some (.val m d) → ∃ m', G[i]? = some (.val m' d) ∧ (m = true → m' = true) := by
  induction w with
  | z => intro i m d h; simp at h
  | sm w ih => intro i m d h; cases i with
    | zero => exact ⟨m, by simpa using h, id⟩
    | succ i => simpa using ih (by simpa using h)
  | nn w ih => intro i m d h; cases i with
    | zero => simp at h
    | succ i => simpa using ih (by simpa using h)
  | fr w ih => intro i m d h; cases i with
    | zero =>
      simp at h
      obtain ⟨h1, h2⟩ := h
      subst h1 h2
      exact ⟨true, by simp, fun z => by cases z⟩
    | succ i => simpa using ih (by simpa using h)
theorem Wk.getE {G G' : Gam} (w : Wk G G') : ∀ {i : Nat} {a : Addr}, G'[i]? = some (.exc a) → G[i]? = some (.exc a) := by
  induction w with
  | z => intro i a h; simp at h
  | sm w ih => intro i a h; cases i with
    | zero => simpa using h
    | succ i => simpa using ih (by simpa using h)
  | nn w ih => intro i a h; cases i with
    | zero => simp at h
    | succ i => simpa using ih (by simpa using h)
  | fr w ih => intro i a h; cases i with
    | zero => simp at h
    | succ i => simpa using ih (by simpa using h)
theorem Wk.len {G G' : Gam} (w : Wk G G') : G.length = G'.length := by
  induction w with
  | z => rfl
  | sm w ih => simp [ih]
  | nn w ih => simp [ih]
  | fr w ih => simp [ih]
theorem Wk.rel {G G' : Gam} (w : Wk G G') {K : PySem.W.Frag} {σ : St} {H : Hp} {F : Nat → List Addr} (R : Rel K G σ H F) : Rel K G' σ H F := by
  refine ⟨by rw [R.len, w.len], fun i m d e => ?_, fun i d e => ?_, fun i j d m d' n e e' => ?_, fun i a e => R.ex i a (w.getE e)⟩
  · obtain ⟨m', e', _⟩ := w.get e
    exact R.rep i m' d e'
  · obtain ⟨m', e', h⟩ := w.get e
    obtain rfl := h rfl
    exact R.nd i d e'
  · obtain ⟨m1, e1, h⟩ := w.get e
    obtain rfl := h rfl
    obtain ⟨m2, e2, _⟩ := w.get e'
    exact R.dj i j d m2 d' n e1 e2
theorem Wk.inO {G G' : Gam} (w : Wk G G') {F : Nat → List Addr} {a : Addr} : InO G' F a → InO G F a := fun ⟨i, d, e, h⟩ => by
  obtain ⟨m', e', q⟩ := w.get e
  obtain rfl := q rfl
  exact ⟨i, d, e', h⟩
theorem Wk.frm {G G' : Gam} (w : Wk G G') {F : Nat → List Addr} {H : Hp} : Frm (InO G F) H (InO G' F) H := fun b o h n => ⟨h, fun z => n (w.inO z)⟩

section
variable {W : WX} {S B R : Type} [Ret R] {g : S → Gam} {gb : B → Gam} {rest : List Stmt}
theorem OutOk.of {G G' : Gam} {F F' : Nat → List Addr} {H H' : Hp} {D : Ends} {o : Out S B R} (h : OutOk X W G F H g gb D o) (f : Frm (InO G F) H (InO G' F') H') : OutOk X W G' F' H' g gb D o := by
  cases o with
  | fall x => exact fun σ' H2 F2 R2 f2 => h σ' H2 F2 R2 (f.trans f2)
  | brk x => exact fun σ' H2 F2 R2 f2 => h σ' H2 F2 R2 (f.trans f2)
  | cnt x => exact fun σ' H2 F2 R2 f2 => h σ' H2 F2 R2 (f.trans f2)
  | ret r => exact Ret.of h f
  | exc c => exact fun σ' H2 u m f2 => h σ' H2 u m (f.trans f2)
/-! ends -/
theorem sx_nil (s : S) (w : Wk G (g s)) : SX X W G [] True g gb (.fall s : Out S B R) :=
  ⟨_, pss_nil, fun σ H F D Rl _ h => h σ H F (w.rel Rl) w.frm⟩
theorem sx_brk (s : B) (w : Wk G (gb s)) : SX X W G (.Break pos :: rest) True g gb (.brk s : Out S B R) :=
  ⟨_, pss_cons ps_break pss_never, fun σ H F D Rl _ h => h σ H F (w.rel Rl) w.frm⟩
theorem sx_cnt (s : B) (w : Wk G (gb s)) : SX X W G (.Continue pos :: rest) True g gb (.cnt s : Out S B R) :=
  ⟨_, pss_cons ps_continue pss_never, fun σ H F D Rl _ h => h σ H F (w.rel Rl) w.frm⟩
theorem sx_ret {R : Type} [Enc R] {x : R} (h : EX X G e p x .frs) : SX X W G (.Return (some e) pos :: rest) p g gb (.ret x : Out S B R) := by
  obtain ⟨te, h1, h2⟩ := h
  exact ⟨_, pss_cons (ps_ret h1) pss_never, fun σ H F D Rl hp k => h2 σ H F _ Rl hp fun v H' fp s r kd => k v H' fp r kd.1 (fun a ha => .inr (kd.2 a ha)) fun b o e n => ⟨s b o e, id⟩⟩
/-- return of an owned list -/
theorem sx_retO {R : Type} [Enc R] {x : R} {y : Str} (C : Cxf X N sc) (i : Nat) (V : Vr N sc i y) (h : G[i]? = some (.val true (enc x)) := by rfl) : SX X W G (.Return (some (.Name y ppos)) pos :: rest) True g gb (.ret x : Out S B R) := by
  refine ⟨_, pss_cons (ps_ret (pe_slot C V)) pss_never, fun σ H F D Rl _ k => ?_⟩
  obtain ⟨v, e, r⟩ := Rl.rep i _ _ h
  exact ⟨v, e, k v H (F i) r (Rl.nd i _ h) (fun a ha => .inl ⟨i, _, h, ha⟩) fun b o e n => ⟨e, id⟩⟩
theorem sx_retN {g : S → Gam} : SX X W G (.Return none pos :: rest) True g gb (.ret () : Out S B Unit) :=
  ⟨_, pss_cons ps_retN pss_never, fun σ H F D Rl _ k => k .non H [] .non List.nodup_nil (fun _ h => nomatch h) fun b o e n => ⟨e, id⟩⟩
theorem sx_pass {o : Out S B R} (h : SX X W G rest p g gb o) : SX X W G (.Pass pos :: rest) p g gb o := by
  obtain ⟨ts, h1, h2⟩ := h
  exact ⟨_, pss_cons ps_pass h1, fun σ H F D Rl hp k => h2 σ H F D Rl hp k⟩

/-! x = e -/
/-- a value that others may see, or that is new, into a slot that none writes -/
theorem sx_set {t : Type} [Enc t] {x : t} {y : Str} {pR : t → Prop} {oR : t → Out S B R} (C : Cx0 X N sc) (i : Nat) (V : Vs X N sc i y) (he : EX X G e pa x .shr) (hR : ∀ x : t, SX X W (G.set i (.val false (enc x))) rest (pR x) g gb (oR x)) (c : Cmb pa (lt x pR) p) (hl : Nat.blt i G.length = true := by rfl)
    (hs : swapsWith e (some (.Name y ppos)) pos.line X.env = pure false := by rfl) : SX X W G (.Assign [.Name y ppos] e pos :: rest) p g gb (lt x oR) := by
  obtain ⟨te, h1, h2⟩ := he
  obtain ⟨ts, r1, r2⟩ := hR x
  refine ⟨_, pss_cons (ps_set (by rw [C.hN]; exact C.nd) (by rw [C.hN]; exact V.ix) (by rw [C.hs]; exact V.loc) h1 hs (by rw [C.hs]; exact V.fn)) r1, fun σ H F D Rl hp k => ?_⟩
  obtain ⟨hpa, hpR⟩ := c.out hp
  refine h2 σ H F _ Rl hpa fun v H1 fp s rv kd => ?_
  have hk := Rl.shrN kd
  obtain ⟨a1, a2⟩ := Rl.put (i := i) (m := false) s rv (blt_lt hl) hk
  exact r2 _ _ _ D a1 hpR (k.of a2)
/-- a new value into a slot that owns it -/
theorem sx_own {t : Type} [Enc t] {x : t} {y : Str} {pR : t → Prop} {oR : t → Out S B R} (C : Cx0 X N sc) (i : Nat) (V : Vs X N sc i y) (he : EX X G e pa x .frs) (hR : ∀ x : t, SX X W (G.set i (.val true (enc x))) rest (pR x) g gb (oR x)) (c : Cmb pa (lt x pR) p) (hl : Nat.blt i G.length = true := by rfl)
    (hs : swapsWith e (some (.Name y ppos)) pos.line X.env = pure false := by rfl) : SX X W G (.Assign [.Name y ppos] e pos :: rest) p g gb (lt x oR) := by
  obtain ⟨te, h1, h2⟩ := he
  obtain ⟨ts, r1, r2⟩ := hR x
  refine ⟨_, pss_cons (ps_set (by rw [C.hN]; exact C.nd) (by rw [C.hN]; exact V.ix) (by rw [C.hs]; exact V.loc) h1 hs (by rw [C.hs]; exact V.fn)) r1, fun σ H F D Rl hp k => ?_⟩
  obtain ⟨hpa, hpR⟩ := c.out hp
  refine h2 σ H F _ Rl hpa fun v H1 fp s rv kd => ?_
  obtain ⟨a1, a2⟩ := Rl.put (i := i) (m := true) s rv (blt_lt hl) kd
  exact r2 _ _ _ D a1 hpR (k.of a2)
/-- y = [.. for ..] on one line -/
theorem lc_read {t : Type} [Enc t] {x : t} {m : Bool} {i : Nat} {kd : Kd} {pR : Prop} {oR : Out S B R} {te : TE} {tr : TS} (hm : kd = if m then .frs else .shr) (h2 : ∀ σ H F (Q : VK), Rel X.K G σ H F → pa → (∀ v H' fp, Same H H' → Rep X.K H' fp v (enc x) → KdOk kd (InS G F) H fp → Q v H') → te σ H Q)
    (r2 : ∀ σ H F (D : Ends), Rel X.K (G.set i (.val m (enc x))) σ H F → pR → OutOk X W (G.set i (.val m (enc x))) F H g gb D oR → tr D σ H) (c : Cmb pa pR p) (hl : Nat.blt i G.length = true) : ∀ σ H F (D : Ends), Rel X.K G σ H F → p → OutOk X W G F H g gb D oR → tSeq (tAsg te (gName i)) tr D σ H := fun σ H F D Rl hp k => by
  obtain ⟨hpa, hpR⟩ := c.out hp
  subst hm
  refine h2 σ H F _ Rl hpa fun v H1 fp s rv kd => ?_
  cases m with
  | true =>
    obtain ⟨a1, a2⟩ := Rl.put (i := i) (m := true) s rv (blt_lt hl) kd
    exact r2 _ _ _ D a1 hpR (k.of a2)
  | false =>
    have hk := Rl.shrN kd
    obtain ⟨a1, a2⟩ := Rl.put (i := i) (m := false) s rv (blt_lt hl) hk
    exact r2 _ _ _ D a1 hpR (k.of a2)
theorem sx_setLc {u : Type} [Enc u] {ys : List u} {y : Str} {elt tg iter : Expr} {ifs : List Expr} {scope : Scope} {own : List (Str × Nat)} {lpos py : Pos} {pR : List u → Prop} {oR : List u → Out S B R} {kd : Kd} (m : Bool) (C : Cxf X N sc) (i : Nat) (V : N[i]? = some y) (hy : sc.names.lookup y = some .local)
    (h : LCX X N sc G elt tg iter ifs scope own pa ys kd) (hm : kd = if m then .frs else .shr) (hR : ∀ x : List u, SX X W (G.set i (.val m (enc x))) rest (pR x) g gb (oR x)) (c : Cmb pa (lt ys pR) p) (hkd : sc.kind = .function) (hll : (py.line == lpos.line) = true) (ha : (scope.names.any fun (n, k) => n == y && (k == .local || k == .cell)) = false)
    (hl : Nat.blt i G.length = true := by rfl) (hs : ∀ x, foldedSetIterable iter X.env x = pure x := by intro _; rfl) : SX X W G (.Assign [.Name y py] (.ListComp elt [⟨tg, iter, ifs, 0⟩] scope lpos) pos :: rest) p g gb (lt ys oR) := by
  obtain ⟨wi, gg, tt, te, h1, h2, h3, h4, h5, h6⟩ := h.ex
  obtain ⟨ts, r1, r2⟩ := hR ys
  exact ⟨_, pss_cons (ps_setLc C.calm (by rw [C.hN]; exact C.nd) (by rw [C.hN]; exact V) (by rw [C.hs]; exact hy) (sw_true (by rw [C.hs]; exact hkd) (by rw [C.hs]; exact hy) hll ha) h1 h2 h3 h4 h5 hs) r1, lc_read hm h6 r2 c hl⟩
/-- a, b = e -/
theorem sx_tgt {t : Type} [Enc t] {x : t} {tg : Expr} {n : Nat} {is : List Nat} {T : Gam → t → Gam} {pR : t → Prop} {oR : t → Out S B R} (hT : TGT X n tg is T) (hn : G.length = n) (hno : notOwn G is = true) (he : EX X G e pa x .shr) (hR : ∀ x : t, SX X W (T G x) rest (pR x) g gb (oR x)) (c : Cmb pa (lt x pR) p)
    (hs : swapsWithSole [tg] e pos.line X.env = pure false := by rfl) (hw : swappedStores [tg] e X.env = pure none := by rfl) (hh : (assignEach [tg] X.env).map (·.2) = [assign tg X.env] := by rfl) : SX X W G (.Assign [tg] e pos :: rest) p g gb (lt x oR) := by
  obtain ⟨te, h1, h2⟩ := he
  obtain ⟨ts, r1, r2⟩ := hR x
  obtain ⟨gg, g1, g2⟩ := hT
  refine ⟨_, pss_cons (ps_asg h1 g1 hs hw hh) r1, fun σ H F D Rl hp k => ?_⟩
  obtain ⟨hpa, hpR⟩ := c.out hp
  refine h2 σ H F _ Rl hpa fun v H1 fp s rv kd => ?_
  have hk := Rl.shrN kd
  refine g2 G x v σ H1 F fp _ hn (Rl.same s) rv hk fun σ' F' l' R' f' m' i' o' j' e' => ?_
  exact r2 _ _ _ D R' hpR (k.of ((Rl.frm s).trans f'))

/-! tests -/
theorem s1_if {oa ob : Out S B R} {sa sb : List Stmt} {bb : Bool} {pc : Prop} (hc : TX X G c pc bb) (ha : SX X W G sa pa g gb oa) (hb : SX X W G sb pb g gb ob) (cc : Cmb3 bb pc pa pb p) : S1 X W G (.If c sa sb pos) p g gb (if bb = true then oa else ob) := by
  obtain ⟨tc, c1, c2⟩ := hc
  obtain ⟨ta, a1, a2⟩ := ha
  obtain ⟨tb, b1, b2⟩ := hb
  refine ⟨_, ps_if c1 a1 b1, fun σ H F D Rl hp k => ?_⟩
  obtain ⟨h1, h2, h3⟩ := cc.out hp
  refine c2 σ H F _ Rl h1 fun H1 s1 => ?_
  have kk : ∀ {o : Out S B R}, OutOk X W G F H g gb D o → OutOk X W G F H1 g gb D o := fun k => k.of (Rl.frm s1)
  cases bb with
  | true => exact iteT (a2 σ H1 F D (Rl.same s1) (h2 rfl) (kk k))
  | false => exact iteF (b2 σ H1 F D (Rl.same s1) (h3 rfl) (kk k))
/-- the block never runs through -/
inductive NF {S B R : Type} : Out S B R → Prop
  | brk (b : B) : NF (.brk b)
  | cnt (b : B) : NF (.cnt b)
  | ret (r : R) : NF (.ret r)
  | exc (c : Str) : NF (.exc c)
  | ite {b : Bool} {x y : Out S B R} : NF x → NF y → NF (if b = true then x else y)
theorem NF.not {o : Out S B R} (h : NF o) {s : S} : o ≠ .fall s := by
  induction h with
  | brk b => intro z; cases z
  | cnt b => intro z; cases z
  | ret b => intro z; cases z
  | exc b => intro z; cases z
  | ite h1 h2 i1 i2 => split <;> assumption
theorem OutOk.nf {G : Gam} {F : Nat → List Addr} {H : Hp} {D : Ends} {o : Out S B R} {nx : St → Hp → Prop} (n : NF o) (h : OutOk X W G F H g gb D o) : OutOk X W G F H g gb { D with nx := nx } o := by
  cases o with
  | fall s => exact absurd rfl n.not
  | brk x => exact h
  | cnt x => exact h
  | ret r => exact h
  | exc c => exact h
/-- if c: sa (which leaves) .. and the rest, which is the else too -/
theorem sx_ifr {oa ob : Out S B R} {sa : List Stmt} {bb : Bool} {pc : Prop} (hc : TX X G c pc bb) (ha : SX X W G sa pa g gb oa) (hn : NF oa) (hb : SX X W G rest pb g gb ob) (cc : Cmb3 bb pc pa pb p) : SX X W G (.If c sa [] pos :: rest) p g gb (if bb = true then oa else ob) := by
  obtain ⟨tc, c1, c2⟩ := hc
  obtain ⟨ta, a1, a2⟩ := ha
  obtain ⟨tb, b1, b2⟩ := hb
  refine ⟨_, pss_cons (ps_if c1 a1 pss_nil) b1, fun σ H F D Rl hp k => ?_⟩
  obtain ⟨h1, h2, h3⟩ := cc.out hp
  refine c2 σ H F _ Rl h1 fun H1 s1 => ?_
  have kk : ∀ {o : Out S B R}, OutOk X W G F H g gb D o → OutOk X W G F H1 g gb D o := fun k => k.of (Rl.frm s1)
  cases bb with
  | true => exact iteT (a2 σ H1 F _ (Rl.same s1) (h2 rfl) ((kk k).nf hn))
  | false => exact iteF (b2 σ H1 F D (Rl.same s1) (h3 rfl) (kk k))
theorem S1.last {st : Stmt} {o : Out S B R} (h : S1 X W G st p g gb o) : SX X W G [st] p g gb o := by
  obtain ⟨ts, h1, h2⟩ := h
  exact ⟨ts, pss_one h1, h2⟩
/-- a statement that runs through, then the rest -/
theorem S1.seq {T : Type} {g1 : T → Gam} {st : Stmt} {x : T} {pR : T → Prop} {oR : T → Out S B R} (h1 : S1 X W G st pa g1 gb (.fall x : Out T B R)) (hR : ∀ s : T, SX X W (g1 s) rest (pR s) g gb (oR s)) (c : Cmb pa (lt x pR) p) : SX X W G (st :: rest) p g gb (lt x oR) := by
  obtain ⟨ts, a1, a2⟩ := h1
  refine ⟨_, pss_cons a1 (SX.canon hR), fun σ H F D Rl hp k => ?_⟩
  obtain ⟨hpa, hpR⟩ := c.out hp
  exact a2 σ H F _ Rl hpa fun σ' H' F' R' f' => ⟨x, F', R', hpR, k.of f'⟩
def Out.bind {T S B R : Type} : Out T B R → (T → Out S B R) → Out S B R
  | .fall s, f => f s
  | .brk b, _ => .brk b
  | .cnt b, _ => .cnt b
  | .ret r, _ => .ret r
  | .exc c, _ => .exc c
def Out.Then {T B R : Type} : Out T B R → (T → Prop) → Prop
  | .fall s, f => f s
  | _, _ => True
theorem S1.bind {T : Type} {g1 : T → Gam} {st : Stmt} {o1 : Out T B R} {pR : T → Prop} {oR : T → Out S B R} (h1 : S1 X W G st pa g1 gb o1) (hR : ∀ s : T, SX X W (g1 s) rest (pR s) g gb (oR s)) (c : Cmb pa (o1.Then pR) p) : SX X W G (st :: rest) p g gb (o1.bind oR) := by
  obtain ⟨ts, a1, a2⟩ := h1
  refine ⟨_, pss_cons a1 (SX.canon hR), fun σ H F D Rl hp k => ?_⟩
  obtain ⟨hpa, hpR⟩ := c.out hp
  refine a2 σ H F _ Rl hpa ?_
  cases o1 with
  | fall x => exact fun σ' H' F' R' f' => ⟨x, F', R', hpR, OutOk.of (show OutOk X W G F H g gb D (oR x) from k) f'⟩
  | brk b => exact k
  | cnt b => exact k
  | ret r => exact k
  | exc r => exact k
/-- both ways run through -/
theorem sx_ifs {T : Type} {g1 : T → Gam} {xa xb : T} {sa sb : List Stmt} {bb : Bool} {pc pi : Prop} {pR : T → Prop} {oR : T → Out S B R} (hc : TX X G c pc bb) (ha : SX X W G sa pa g1 gb (.fall xa : Out T B R)) (hb : SX X W G sb pb g1 gb (.fall xb : Out T B R)) (cc : Cmb3 bb pc pa pb pi)
    (hR : ∀ s : T, SX X W (g1 s) rest (pR s) g gb (oR s)) (c2 : Cmb pi (lt (if bb = true then xa else xb) pR) p) : SX X W G (.If c sa sb pos :: rest) p g gb (lt (if bb = true then xa else xb) oR) := by
  refine S1.seq (pa := pi) (x := if bb = true then xa else xb) ?_ hR c2
  have h := s1_if (pos := pos) hc ha hb cc
  cases bb with
  | true => exact h
  | false => exact h

/-! append, x[i] = e, extend, reverse: of a list that is owned -/
/-- an owned slot's list is written -/
theorem own_upd {i : Nat} {l : Addr} {vs : List V} {fpi : List Addr} {ds' : List D} {vs' : List V} {fp' : List Addr} {σ : St} {H H1 : Hp} {F : Nat → List Addr} {ds : List D} (Rl : Rel X.K G σ H F) (s : Same H H1) (h : G[i]? = some (.val true (.lst ds))) (hσ : σ[i]? = some (some (.ref l))) (hF : F i = l :: fpi) (hl : H1 l = some (.lst vs))
    (rs : Reps X.K H1 fp' vs' ds') (nd : (l :: fp').Nodup) (hn : ∀ a ∈ fp', a ∈ fpi ∨ H a = none) :
    Rel X.K (G.set i (.val true (.lst ds'))) σ (upd H1 l (.lst vs')) (updF F i (l :: fp')) ∧ Frm (InO G F) H (InO (G.set i (.val true (.lst ds'))) (updF F i (l :: fp'))) (upd H1 l (.lst vs')) := by
  have hi : i < G.length := (List.getElem?_eq_some_iff.mp h).1
  have lO : InO G F l := ⟨i, _, h, by rw [hF]; exact List.mem_cons_self⟩
  have nl : ∀ (j : Nat) m d, j ≠ i → G[j]? = some (.val m d) → ∀ a ∈ F j, a ∉ (l :: fp') := fun j m d hj e a ha z => by
    have q : ∀ b ∈ F i, b ∉ F j := Rl.dj i j _ m d (Ne.symm hj) h e
    rcases List.mem_cons.mp z with z | z
    · subst z; exact q a (by rw [hF]; exact List.mem_cons_self) ha
    · rcases hn a z with z | z
      · exact q a (by rw [hF]; exact List.mem_cons_of_mem _ z) ha
      · obtain ⟨_, _, r⟩ := Rl.rep j m d e
        exact r.there ha z
  have nlf : l ∉ fp' := (List.nodup_cons.mp nd).1
  refine ⟨⟨by rw [List.length_set]; exact Rl.len, fun j m d e => ?_, fun j d e => ?_, fun j j' d m' d' n e e' => ?_, fun j a e => by
    by_cases hj : j = i
    · subst hj
      have q := set_eq e
      cases q
    · exact Rl.ex j a (set_ne hj e)⟩, fun b o hb hO => ⟨?_, ?_⟩⟩
  · by_cases hj : j = i
    · subst hj
      have q := set_eq e
      injection q with q1 q2
      subst q1 q2
      rw [updF_same]
      exact ⟨_, hσ, .lst upd_same (rs.upd hl nlf)⟩
    · rw [updF_ne hj]
      obtain ⟨v, hv, r⟩ := Rl.rep j m d (set_ne hj e)
      exact ⟨v, hv, (r.same s).upd hl fun z => nl j m d hj (set_ne hj e) l z List.mem_cons_self⟩
  · by_cases hj : j = i
    · subst hj; rw [updF_same]; exact nd
    · rw [updF_ne hj]; exact Rl.nd j d (set_ne hj e)
  · by_cases hj : j = i
    · subst hj
      rw [updF_same, updF_ne (Ne.symm n)]
      exact fun a ha z => nl j' m' d' (Ne.symm n) (set_ne (Ne.symm n) e') a z ha
    · by_cases hj' : j' = i
      · subst hj'
        rw [updF_same, updF_ne n]
        exact nl j _ d n (set_ne n e)
      · rw [updF_ne hj, updF_ne hj']
        exact Rl.dj j j' d m' d' n (set_ne hj e) (set_ne hj' e')
  · have hbl : b ≠ l := fun z => hO (z ▸ lO)
    rw [upd_ne hbl]; exact s b o hb
  · rintro ⟨j, d, e, ha⟩
    by_cases hj : j = i
    · subst hj
      rw [updF_same] at ha
      rcases List.mem_cons.mp ha with z | z
      · exact hO (z ▸ lO)
      · rcases hn b z with z | z
        · exact hO ⟨j, _, h, by rw [hF]; exact List.mem_cons_of_mem _ z⟩
        · rw [hb] at z; cases z
    · rw [updF_ne hj] at ha
      exact hO ⟨j, d, set_ne hj e, ha⟩
/-- xs.append(e) -/
theorem sx_append {t : Type} [Enc t] {xs : List t} {x : t} {y : Str} {apos cpos npos : Pos} {pR : List t → Prop} {oR : List t → Out S B R} {p1 : Prop} (C : Cx0 X N sc) (i : Nat) (V : Vr N sc i y) (he : EX X G e pa x .frs)
    (hR : ∀ zs : List t, SX X W (G.set i (.val true (enc zs))) rest (pR zs) g gb (oR zs)) (c1 : Cmb pa (LenOk (xs.length + 1)) p1) (c2 : Cmb p1 (lt (xs ++ [x]) pR) p) (h : G[i]? = some (.val true (enc xs)) := by rfl) (hbase : attributeBase (.Name y npos) "append" X.env (eval (.Name y npos) X.env) = eval (.Name y npos) X.env := by rfl)
    (hfew : ((backTo cpos (starEach [e] X.env)).all (fun x => !x.1) && (backToKw cpos (keywordEach [] X.env)).all (fun x => x.1.isSome) && decide ([e].length + ([] : List Keyword).length + (if ([] : List Keyword).isEmpty then 0 else 1) < 30)) = true := by rfl)
    (hline : (apos.endLine == cpos.line) = true := by rfl) (hst : starEach [e] X.env = (false, eval e X.env) :: starEach [] X.env := by rfl) (hplain : (backTo cpos (starEach [] X.env)).any (·.1) = false := by rfl)
    (hs : swapsWith (.Call (.Attribute (.Name y npos) "append" apos) [e] [] cpos) none pos.line X.env = pure false := by rfl) :
    SX X W G (.Expr (.Call (.Attribute (.Name y npos) "append" apos) [e] [] cpos) pos :: rest) p g gb (lt (xs ++ [x]) oR) := by
  obtain ⟨te, h1, h2⟩ := he
  obtain ⟨ts, r1, r2⟩ := hR (xs ++ [x])
  refine ⟨_, pss_cons (ps_expr (pe_bm PySem.F.plainAttrs_list PySem.F.slot_list_append PySem.F.type_list_append mt_append (pe_slot C V) (pa_cons h1 pa_nil hst) hbase hfew hline hst hplain) hs) r1, fun σ H F D Rl hp k => ?_⟩
  obtain ⟨hp1, hpR⟩ := c2.out hp
  obtain ⟨hpa, hlen⟩ := c1.out hp1
  obtain ⟨v, ev, rv⟩ := Rl.rep i _ _ h
  have hnd := Rl.nd i _ h
  obtain ⟨l, vs, fpi, rfl, hl, rs, eF⟩ := rv.lst_inv'
  rw [eF] at hnd
  refine ⟨_, ev, .inl ⟨rfl, _, SqL.of hl⟩, h2 σ H F _ Rl hpa fun w H1 fp s1 r1' kd => ?_⟩
  have hl1 := s1 _ _ hl
  have rs1 := rs.same s1
  have e1 := rs.length
  rw [List.length_map] at e1
  refine ⟨l, vs, w, rfl, rfl, hl1, by unfold LenOk at hlen; omega, ?_⟩
  have rn : Reps X.K H1 (fpi ++ fp) (vs ++ [w]) ((xs ++ [x]).map enc) := by
    have rb := Reps.cons r1' .nil
    rw [List.append_nil] at rb
    have q := rs1.append rb
    rw [List.map_append]
    exact q
  have nd : (l :: (fpi ++ fp)).Nodup := by
    refine List.nodup_cons.mpr ⟨fun z => ?_, List.nodup_append.mpr ⟨(List.nodup_cons.mp hnd).2, kd.1, fun a ha b hb e => ?_⟩⟩
    · rcases List.mem_append.mp z with z | z
      · exact (List.nodup_cons.mp hnd).1 z
      · rw [kd.2 l z] at hl; cases hl
    · subst e; exact rs.there ha (kd.2 a hb)
  obtain ⟨q1, q2⟩ := own_upd Rl s1 h ev eF hl1 rn nd fun a ha => (List.mem_append.mp ha).imp id (kd.2 a)
  exact r2 _ _ _ D q1 hpR (k.of q2)
/-- xs.extend(e), e a new list -/
theorem sx_extend {t : Type} [Enc t] {xs ys : List t} {y : Str} {apos cpos npos : Pos} {pR : List t → Prop} {oR : List t → Out S B R} {p1 : Prop} (C : Cxf X N sc) (i : Nat) (V : Vr N sc i y) (he : EX X G e pa ys .frs)
    (hR : ∀ zs : List t, SX X W (G.set i (.val true (enc zs))) rest (pR zs) g gb (oR zs)) (c1 : Cmb pa (LenOk (xs.length + ys.length)) p1) (c2 : Cmb p1 (lt (xs ++ ys) pR) p) (h : G[i]? = some (.val true (enc xs)) := by rfl) (hbase : attributeBase (.Name y npos) "extend" X.env (eval (.Name y npos) X.env) = eval (.Name y npos) X.env := by rfl)
    (hfew : ((backTo cpos (starEach [e] X.env)).all (fun x => !x.1) && (backToKw cpos (keywordEach [] X.env)).all (fun x => x.1.isSome) && decide ([e].length + ([] : List Keyword).length + (if ([] : List Keyword).isEmpty then 0 else 1) < 30)) = true := by rfl)
    (hline : (apos.endLine == cpos.line) = true := by rfl) (hst : starEach [e] X.env = (false, eval e X.env) :: starEach [] X.env := by rfl) (hplain : (backTo cpos (starEach [] X.env)).any (·.1) = false := by rfl)
    (hs : swapsWith (.Call (.Attribute (.Name y npos) "extend" apos) [e] [] cpos) none pos.line X.env = pure false := by rfl) :
    SX X W G (.Expr (.Call (.Attribute (.Name y npos) "extend" apos) [e] [] cpos) pos :: rest) p g gb (lt (xs ++ ys) oR) := by
  obtain ⟨te, h1, h2⟩ := he
  obtain ⟨ts, r1, r2⟩ := hR (xs ++ ys)
  refine ⟨_, pss_cons (ps_expr (pe_bm PySem.F.plainAttrs_list PySem.F.slot_list_extend PySem.F.type_list_extend mt_extend (pe_slot C V) (pa_cons h1 pa_nil hst) hbase hfew hline hst hplain) hs) r1, fun σ H F D Rl hp k => ?_⟩
  obtain ⟨hp1, hpR⟩ := c2.out hp
  obtain ⟨hpa, hlen⟩ := c1.out hp1
  obtain ⟨v, ev, rv⟩ := Rl.rep i _ _ h
  have hnd := Rl.nd i _ h
  obtain ⟨l, vs, fpi, rfl, hl, rs, eF⟩ := rv.lst_inv'
  rw [eF] at hnd
  refine ⟨_, ev, .inl ⟨rfl, _, SqL.of hl⟩, h2 σ H F _ Rl hpa fun w H1 fp s1 r1' kd => ?_⟩
  have hl1 := s1 _ _ hl
  have rs1 := rs.same s1
  have e1 := rs.length
  rw [List.length_map] at e1
  obtain ⟨m, ws, fpm, rfl, hm, rm, eM⟩ := r1'.lst_inv'
  have e2 := rm.length
  rw [List.length_map] at e2
  refine ⟨l, m, vs, ws, rfl, rfl, hl1, hm, by unfold LenOk at hlen; omega, ?_⟩
  have rn : Reps X.K H1 (fpi ++ fpm) (vs ++ ws) ((xs ++ ys).map enc) := by
    have q := rs1.append rm
    rw [List.map_append]
    exact q
  rw [eM] at kd
  have nd : (l :: (fpi ++ fpm)).Nodup := by
    refine List.nodup_cons.mpr ⟨fun z => ?_, List.nodup_append.mpr ⟨(List.nodup_cons.mp hnd).2, (List.nodup_cons.mp kd.1).2, fun a ha b hb e => ?_⟩⟩
    · rcases List.mem_append.mp z with z | z
      · exact (List.nodup_cons.mp hnd).1 z
      · rw [kd.2 l (List.mem_cons_of_mem _ z)] at hl; cases hl
    · subst e; exact rs.there ha (kd.2 a (List.mem_cons_of_mem _ hb))
  obtain ⟨q1, q2⟩ := own_upd Rl s1 h ev eF hl1 rn nd fun a ha => (List.mem_append.mp ha).imp id fun z => kd.2 a (List.mem_cons_of_mem _ z)
  exact r2 _ _ _ D q1 hpR (k.of q2)
/-- xs.reverse(), items without lists -/
theorem sx_reverse {t : Type} [Enc t] [Flat t] {xs : List t} {y : Str} {apos cpos npos : Pos} {pR : List t → Prop} {oR : List t → Out S B R} (C : Cxf X N sc) (i : Nat) (V : Vr N sc i y)
    (hR : ∀ zs : List t, SX X W (G.set i (.val true (enc zs))) rest (pR zs) g gb (oR zs)) (h : G[i]? = some (.val true (enc xs)) := by rfl) (hbase : attributeBase (.Name y npos) "reverse" X.env (eval (.Name y npos) X.env) = eval (.Name y npos) X.env := by rfl) (hline : (apos.endLine == cpos.line) = true := by rfl)
    (hs : swapsWith (.Call (.Attribute (.Name y npos) "reverse" apos) [] [] cpos) none pos.line X.env = pure false := by rfl) :
    SX X W G (.Expr (.Call (.Attribute (.Name y npos) "reverse" apos) [] [] cpos) pos :: rest) (lt xs.reverse pR) g gb (lt xs.reverse oR) := by
  obtain ⟨ts, r1, r2⟩ := hR xs.reverse
  refine ⟨_, pss_cons (ps_expr (pe_bm0 PySem.F.plainAttrs_list PySem.F.slot_list_reverse PySem.F.type_list_reverse mt_reverse (pe_slot C V) hbase hline) hs) r1, fun σ H F D Rl hp k => ?_⟩
  obtain ⟨v, ev, rv⟩ := Rl.rep i _ _ h
  obtain ⟨l, vs, fpi, rfl, hl, rs, eF⟩ := rv.lst_inv'
  refine ⟨_, ev, .inl ⟨rfl, _, SqL.of hl⟩, l, vs, rfl, rfl, hl, ?_⟩
  have z := FlatL.flat _ rs
  subst z
  obtain ⟨q1, q2⟩ := own_upd (fp' := []) (vs' := vs.reverse) (ds' := (xs.reverse).map enc) Rl (Same.refl H) h ev eF hl (by rw [List.map_reverse]; exact Reps.revF rs) (by simp) (fun _ h => nomatch h)
  exact r2 _ _ _ D q1 hp (k.of q2)
/-- xs[j] = e, items without lists -/
def pySet {t : Type} (xs : List t) (i : Int) (x : t) : List t := match ixN xs.length i with
  | some j => xs.set j x
  | none => xs
theorem sx_setitem {t : Type} [Enc t] [Flat t] {xs : List t} {x : t} {ix : Int} {y : Str} {npos spos : Pos} {kx ky : Kd} {pR : List t → Prop} {oR : List t → Out S B R} {p1 p2 : Prop} (C : Cxf X N sc) (i : Nat) (V : Vr N sc i y) (he : EX X G e pa x kx) (hi : EX X G a pb ix ky)
    (hR : ∀ zs : List t, SX X W (G.set i (.val true (enc zs))) rest (pR zs) g gb (oR zs)) (c1 : Cmb pa pb p1) (c2 : Cmb p1 (IxOk xs.length ix) p2) (c3 : Cmb p2 (lt (pySet xs ix x) pR) p) (h : G[i]? = some (.val true (enc xs)) := by rfl)
    (hs : swapsWithSole [.Subscript (.Name y npos) a spos] e pos.line X.env = pure false := by rfl) (hw : swappedStores [.Subscript (.Name y npos) a spos] e X.env = pure none := by rfl) (hh : (assignEach [.Subscript (.Name y npos) a spos] X.env).map (·.2) = [assign (.Subscript (.Name y npos) a spos) X.env] := by rfl)
    (hsub : ∀ v, assign (.Subscript (.Name y npos) a spos) X.env v = (do let ov ← holding [v] (eval (.Name y npos) X.env); let iv ← holding [v, ov] (eval a X.env); standAt spos; holding [v, ov, iv] (setItem ov iv v); release [v, ov, iv] []) := by intro _; rfl) :
    SX X W G (.Assign [.Subscript (.Name y npos) a spos] e pos :: rest) p g gb (lt (pySet xs ix x) oR) := by
  obtain ⟨te, h1, h2⟩ := he
  obtain ⟨ti, i1, i2⟩ := hi
  obtain ⟨ts, r1, r2⟩ := hR (pySet xs ix x)
  refine ⟨_, pss_cons (ps_asg h1 (pg_sub (pe_slot C V) i1 set_list hsub) hs hw hh) r1, fun σ H F D Rl hp k => ?_⟩
  obtain ⟨hp2, hpR⟩ := c3.out hp
  obtain ⟨hp1, hix⟩ := c2.out hp2
  obtain ⟨hpa, hpb⟩ := c1.out hp1
  refine h2 σ H F _ Rl hpa fun w H1 fp s1 r1' kd => ?_
  have Rl1 := Rl.same s1
  obtain ⟨v, ev, rv⟩ := Rl1.rep i _ _ h
  refine ⟨v, ev, i2 σ H1 F _ Rl1 hpb fun u H2 fp2 s2 r2' kd2 => ?_⟩
  obtain ⟨l, vs, fpi, rfl, hl, rs, eF⟩ := (rv.same s2).lst_inv'
  obtain ⟨rfl, _⟩ := r2'.int_inv
  obtain ⟨j, ej, hj⟩ := ixN_some hix
  have e1 := rs.length
  rw [List.length_map] at e1
  refine ⟨l, vs, ix, j, rfl, rfl, hl, by rw [e1]; exact ej, ?_⟩
  have z := FlatL.flat _ rs
  subst z
  have zf := Flat.flat x r1'
  subst zf
  have es : (pySet xs ix x).map enc = (xs.map enc).set j (enc x) := by unfold pySet; rw [ej]; exact List.map_set
  obtain ⟨q1, q2⟩ := own_upd (fp' := []) (vs' := vs.set j w) (ds' := (pySet xs ix x).map enc) Rl (s1.trans s2) h ev eF hl (by rw [es]; exact Reps.setF j rs (r1'.same s2)) (by simp) (fun _ h => nomatch h)
  exact r2 _ _ _ D q1 hpR (k.of q2)
/-- x += e of ints -/
theorem sx_aug {x z : Int} {y : Str} {kx : Kd} {pR : Int → Prop} {oR : Int → Out S B R} (C : Cxf X N sc) (i : Nat) (V : Vs X N sc i y) (he : EX X G e pa z kx) (hR : ∀ x : Int, SX X W (G.set i (.val false (enc x))) rest (pR x) g gb (oR x)) (c : Cmb pa (lt (x + z) pR) p) {m : Bool} (h : G[i]? = some (.val m (enc x)) := by rfl) :
    SX X W G (.AugAssign (.Name y ppos) .Add e pos :: rest) p g gb (lt (x + z) oR) := by
  obtain ⟨te, h1, h2⟩ := he
  obtain ⟨ts, r1, r2⟩ := hR (x + z)
  refine ⟨_, pss_cons (ps_aug (by rw [C.hN]; exact C.nd) (by rw [C.hN]; exact V.ix) (by rw [C.hs]; exact V.loc) h1 ip_add (by rw [C.hs]; exact V.fn)) r1, fun σ H F D Rl hp k => ?_⟩
  obtain ⟨hpa, hpR⟩ := c.out hp
  obtain ⟨v, ev, rv⟩ := Rl.rep i _ _ h
  refine ⟨v, ev, h2 σ H F _ Rl hpa fun w H1 fp s rw' kd => ?_⟩
  obtain ⟨rfl, _⟩ := rv.int_inv
  obtain ⟨rfl, _⟩ := rw'.int_inv
  refine ⟨x, z, rfl, rfl, ?_⟩
  have hl : i < G.length := (List.getElem?_eq_some_iff.mp h).1
  obtain ⟨a1, a2⟩ := Rl.put (i := i) (m := false) s (Rep.int (x + z)) hl (fun _ h => nomatch h)
  exact r2 _ _ _ D a1 hpR (k.of a2)
end
end
end BW

set_option Elab.async false
set_option linter.all false
set_option maxRecDepth 100000
set_option maxHeartbeats 4000000
/-! Loops, raise, calls that raise, a def as a whole. -/
namespace BW
open PySem L2

/-- behind a turn -/
def stepO {L B R : Type} : Out L L R → (L → Out L B R) → Out L B R
  | .fall s, k => k s
  | .cnt s, k => k s
  | .brk s, _ => .fall s
  | .ret r, _ => .ret r
  | .exc c, _ => .exc c
def stepP {L R : Type} : Out L L R → (L → Prop) → Prop
  | .fall s, k => k s
  | .cnt s, k => k s
  | _, _ => True
/-- a for: the state s, the items -/
def loopL {L t B R : Type} (f : L → t → Out L L R) : L → List t → Out L B R
  | s, [] => .fall s
  | s, x :: xs => stepO (f s x) fun s' => loopL f s' xs
def loopP {L t R : Type} (p : L → t → Prop) (f : L → t → Out L L R) : L → List t → Prop
  | _, [] => True
  | s, x :: xs => p s x ∧ stepP (f s x) fun s' => loopP p f s' xs
/-- the same where each turn runs through -/
def foldP {L t : Type} (p : L → t → Prop) (f : L → t → L) : L → List t → Prop
  | _, [] => True
  | s, x :: xs => p s x ∧ foldP p f (f s x) xs
theorem loopL_fold {L t B R : Type} (f : L → t → L) : ∀ (xs : List t) (s : L), (loopL (fun s x => .fall (f s x)) s xs : Out L B R) = .fall (xs.foldl f s)
  | [], _ => rfl
  | x :: xs, s => loopL_fold f xs (f s x)
theorem loopP_fold {L t R : Type} (p : L → t → Prop) (f : L → t → L) : ∀ (xs : List t) (s : L), foldP p f s xs → loopP p (fun s x => (.fall (f s x) : Out L L R)) s xs
  | [], _, _ => trivial
  | x :: xs, s, h => ⟨h.1, loopP_fold p f xs (f s x) h.2⟩
theorem foldP_inv {L t : Type} {p : L → t → Prop} {f : L → t → L} (I : L → Prop) (xs : List t) (s : L) (h0 : I s) (h : ∀ s x, x ∈ xs → I s → p s x ∧ I (f s x)) : foldP p f s xs := by
  induction xs generalizing s with
  | nil => trivial
  | cons x xs ih =>
    obtain ⟨h1, h2⟩ := h s x List.mem_cons_self h0
    exact ⟨h1, ih (f s x) h2 fun s y hy => h s y (List.mem_cons_of_mem _ hy)⟩
theorem foldl_inv {L t : Type} {f : L → t → L} (I : L → Prop) (xs : List t) (s : L) (h0 : I s) (h : ∀ s x, x ∈ xs → I s → I (f s x)) : I (xs.foldl f s) := by
  induction xs generalizing s with
  | nil => exact h0
  | cons x xs ih => exact ih (f s x) (h s x List.mem_cons_self h0) fun s y hy => h s y (List.mem_cons_of_mem _ hy)
/-- a while, n turns at most -/
def whileL {L B R : Type} (b : L → Bool) (f : L → Out L L R) : Nat → L → Out L B R
  | 0, s => .fall s
  | n + 1, s => if b s = true then stepO (f s) fun s' => whileL b f n s' else .fall s
def whileP {L R : Type} (pc : L → Prop) (b : L → Bool) (p : L → Prop) (f : L → Out L L R) : Nat → L → Prop
  | 0, _ => False
  | n + 1, s => pc s ∧ (b s = true → p s ∧ stepP (f s) fun s' => whileP pc b p f n s')

section
variable {X : Cx} {G : Gam} {N : List Str} {sc : Scope} {e a b c : Expr} {es : List Expr} {p pa pb pr q pI pF : Prop} {pos ppos : Pos}
variable {W : WX} {S B R : Type} [Ret R] {g : S → Gam} {gb : B → Gam} {rest : List Stmt}

theorem s1_forL {L t : Type} [Enc t] {gL : L → Gam} {xs : List t} {tg iter : Expr} {body : List Stmt} {n : Nat} {is : List Nat} {T : Gam → t → Gam} {pB : L → t → Prop} {oB : L → t → Out L L R} (C : Cxf X N sc) (own : PassesOwn (model X.prog X.w) X.A X.env X.xe)
    (hI : IX X G tg iter pI xs) (hT : TGT X n tg is T) (hn : ∀ s, (gL s).length = n) (s0 : L) (w : Wk G (gL s0)) (hB : ∀ (s : L) (x : t), SX X W (T (gL s) x) body (pB s x) gL gL (oB s x)) (c1 : Cmb pI (loopP pB oB s0 xs) p)
    (hs : ∀ x, foldedSetIterable iter X.env x = pure x := by intro _; rfl) : S1 X W G (.For tg iter body [] pos) p gL gb (loopL oB s0 xs : Out L B R) := by
  obtain ⟨wi, i1, i2⟩ := hI
  refine ⟨_, ps_for own C.calm i1 hT.canon (SX.canon (I := L × t) (Gx := fun q => T (gL q.1) q.2) (px := fun q => pB q.1 q.2) (ox := fun q => oB q.1 q.2) fun q => hB q.1 q.2) hs, fun σ H F D Rl hp k => ?_⟩
  obtain ⟨hpI, hpB⟩ := c1.out hp
  refine i2 σ H F _ Rl hpI fun J H1 nodes Gd s1 n1 n2 ps g1 wk => ?_
  have nO : ∀ a ∈ nodes, ¬ InO G F a := Rl.shrN n1
  have Rl1 := Rl.same s1
  have gd : ∀ {H2 : Hp} {s : L} {F2 : Nat → List Addr}, Frm (InO G F) H1 (InO (gL s) F2) H2 → Gd H2 ∧ ∀ a ∈ nodes, ¬ InO (gL s) F2 a := fun f => ps _ _ _ _ f Rl1.lsts nO g1
  refine for_it wk (fun i σ' H' => ∃ (s : L) (F' : Nat → List Addr), Rel X.K (gL s) σ' H' F' ∧ Frm (InO G F) H1 (InO (gL s) F') H' ∧ loopP pB oB s (xs.drop i) ∧ (loopL oB s0 xs : Out L B R) = loopL oB s (xs.drop i)) ?_ ?_ ?_ ?_
  · exact ⟨s0, F, w.rel Rl1, w.frm, hpB, rfl⟩
  · exact fun i σ' H' _ ⟨s, F', _, f', _⟩ => (gd f').1
  · rintro i x σ' H' H2 hi ⟨s, F', R', f', hP, hE⟩ ⟨sy, fpx, y, ey, ry, ny⟩
    have hd : xs.drop i = y :: xs.drop (i + 1) := by
      rw [List.drop_eq_getElem_cons hi]
      congr 1
      rw [List.getElem?_eq_getElem hi] at ey
      exact Option.some.inj ey
    rw [hd] at hP hE
    obtain ⟨hP1, hP2⟩ := hP
    have nO' := (gd f').2
    refine ⟨gL s, y, F', fpx, hn s, R'.same sy, ry, fun a ha => nO' a (ny a ha), fun σ2 F2 l2 R2 f2 m2 i2 o2 j2 e2 => ?_⟩
    have fr : Frm (InO G F) H1 (InO (T (gL s) y) F2) H2 := f'.trans ((R'.frm sy).trans f2)
    have frH : Frm (InO G F) H (InO (T (gL s) y) F2) H2 := (Rl.frm s1).trans fr
    refine ⟨(s, y), F2, R2, hP1, ?_⟩
    show OutOk X W (T (gL s) y) F2 H2 gL gL _ (oB s y)
    have he : (loopL oB s0 xs : Out L B R) = stepO (oB s y) (fun s' => loopL oB s' (xs.drop (i + 1))) := hE
    have hP3 : stepP (oB s y) (fun s' => loopP pB oB s' (xs.drop (i + 1))) := hP2
    generalize oB s y = o at he hP3 ⊢
    cases o with
    | fall s' => exact fun σ3 H3 F3 R3 f3 => ⟨s', F3, R3, fr.trans f3, hP3, he⟩
    | cnt s' => exact fun σ3 H3 F3 R3 f3 => ⟨s', F3, R3, fr.trans f3, hP3, he⟩
    | brk s' =>
      rw [he] at k
      exact fun σ3 H3 F3 R3 f3 => k σ3 H3 F3 R3 (frH.trans f3)
    | ret r =>
      rw [he] at k
      exact Ret.of k frH
    | exc c =>
      rw [he] at k
      exact fun σ3 H3 u m3 f3 => k σ3 H3 u m3 (frH.trans f3)
  · rintro σ' H' ⟨s, F', R', f', hP, hE⟩
    rw [List.drop_length] at hE
    rw [hE] at k
    exact k σ' H' F' R' ((Rl.frm s1).trans f')
/-- each turn runs through -/
theorem s1_for {L t : Type} [Enc t] {gL : L → Gam} {xs : List t} {tg iter : Expr} {body : List Stmt} {n : Nat} {is : List Nat} {T : Gam → t → Gam} {pB : L → t → Prop} {fB : L → t → L} (C : Cxf X N sc) (own : PassesOwn (model X.prog X.w) X.A X.env X.xe)
    (hI : IX X G tg iter pI xs) (hT : TGT X n tg is T) (hn : ∀ s, (gL s).length = n) (s0 : L) (w : Wk G (gL s0)) (hB : ∀ (s : L) (x : t), SX X W (T (gL s) x) body (pB s x) gL gL (.fall (fB s x) : Out L L R)) (c1 : Cmb pI (foldP pB fB s0 xs) p)
    (hs : ∀ x, foldedSetIterable iter X.env x = pure x := by intro _; rfl) : S1 X W G (.For tg iter body [] pos) p gL gb (.fall (xs.foldl fB s0) : Out L B R) := by
  rw [← loopL_fold]
  have h := s1_forL (pos := pos) (gb := gb) (B := B) (p := pI ∧ loopP pB (fun s x => (.fall (fB s x) : Out L L R)) s0 xs) (oB := fun s x => (.fall (fB s x) : Out L L R)) (pB := pB) C own hI hT hn s0 w hB (.b _ _) hs
  obtain ⟨ts, h1, h2⟩ := h
  exact ⟨ts, h1, fun σ H F D Rl hp k => h2 σ H F D Rl ⟨(c1.out hp).1, loopP_fold _ _ _ _ (c1.out hp).2⟩ k⟩
/-- while, m turns at most -/
theorem s1_while {L : Type} {gL : L → Gam} {body : List Stmt} {pC : L → Prop} {bC : L → Bool} {pB : L → Prop} {oB : L → Out L L R} (own : PassesOwn (model X.prog X.w) X.A X.env X.xe) (m : Nat) (s0 : L) (w : Wk G (gL s0)) (hC : ∀ s, TX X (gL s) c (pC s) (bC s)) (hB : ∀ s, SX X W (gL s) body (pB s) gL gL (oB s)) :
    S1 X W G (.While c body [] pos) (whileP pC bC pB oB m s0) gL gb (whileL bC oB m s0 : Out L B R) := by
  refine ⟨_, ps_while own (TX.canon hC) (SX.canon hB), fun σ H F D Rl hp k => ?_⟩
  refine ⟨fun m σ' H' => ∃ (s : L) (F' : Nat → List Addr), Rel X.K (gL s) σ' H' F' ∧ Frm (InO G F) H (InO (gL s) F') H' ∧ whileP pC bC pB oB m s ∧ OutOk X W G F H gL gb D (whileL bC oB m s : Out L B R), ⟨m, s0, F, w.rel Rl, w.frm, hp, k⟩, ?_⟩
  rintro m σ' H' ⟨s, F', R', f', hP, hE⟩
  cases m with
  | zero => exact hP.elim
  | succ m =>
    obtain ⟨hp1, hp2⟩ := hP
    refine ⟨s, F', R', hp1, fun H2 s2 => ?_⟩
    have fr := f'.trans (R'.frm s2)
    have hE' : OutOk X W G F H gL gb D (if bC s = true then stepO (oB s) fun s' => whileL bC oB m s' else .fall s : Out L B R) := hE
    generalize bC s = bb at hp2 hE' ⊢
    cases bb with
    | false => exact iteF (hE' σ' H2 F' (R'.same s2) fr)
    | true =>
      obtain ⟨q1, q2⟩ := hp2 rfl
      refine iteT ⟨fun σ3 H3 => ∃ (s : L) (F' : Nat → List Addr), Rel X.K (gL s) σ3 H3 F' ∧ Frm (InO G F) H (InO (gL s) F') H3 ∧ whileP pC bC pB oB m s ∧ OutOk X W G F H gL gb D (whileL bC oB m s : Out L B R), fun σ3 H3 h => ⟨m, Nat.lt_succ_self m, h⟩, s, F', R'.same s2, q1, ?_⟩
      have hE2 : OutOk X W G F H gL gb D (stepO (oB s) fun s' => whileL bC oB m s' : Out L B R) := hE'
      generalize oB s = o at q2 hE2 ⊢
      cases o with
      | fall s' => exact fun σ3 H3 F3 R3 f3 => ⟨s', F3, R3, fr.trans f3, q2, hE2⟩
      | cnt s' => exact fun σ3 H3 F3 R3 f3 => ⟨s', F3, R3, fr.trans f3, q2, hE2⟩
      | brk s' => exact fun σ3 H3 F3 R3 f3 => hE2 σ3 H3 F3 R3 (fr.trans f3)
      | ret r => exact Ret.of hE2 fr
      | exc c => exact fun σ3 H3 u m3 f3 => hE2 σ3 H3 u m3 (fr.trans f3)

/-! raise, calls that may raise -/
/-- a class of exceptions of the text -/
structure ExF (X : Cx) (x : Str) : Prop where
  ex : ∃ C : Addr, X.mg x = some (.ref C) ∧ PySem.W.excIn X.K C [.type "ValueError", .type "Exception", .type "BaseException", .type "object"] "ValueError.__new__" = true ∧ PySem.W.keepIn X.K (.ref C) = true ∧
    PySem.W.subIn X.K (.ref C) (.type "BaseException") = some true ∧ PySem.W.typeIn X.K (.ref C) = some (.type "type")
theorem sx_raise {x m : Str} {j : Nat} {p1 p2 cpos : Pos} (C : Cxf X N sc) (tk : Takes X W) (E : ExF X x) (hg : sc.names.lookup x = some .globalImplicit) (hdb : (x == ("__debug__" : Str)) = false := by decide) :
    SX X W G (.Raise (some (.Call (.Name x p1) [.Constant (.str m) j p2] [] cpos)) none pos :: rest) True g gb (.exc x : Out S B R) := by
  obtain ⟨c, gC, xC, kC, bC, tC⟩ := E.ex
  refine ⟨_, pss_cons (ps_raise C.calm tk (pmk_own PySem.F.excBase_ValueError xC gC kC (raises_own bC tC) (C.gl hg) hdb)) pss_never, fun σ H F D Rl _ k => ?_⟩
  exact k σ H _ gC fun b o e n => ⟨e, id⟩
/-- an expression that may raise -/
def ER (X : Cx) (W : WX) (G : Gam) (e : Expr) (p : Prop) {t : Type} [Enc t] (r : Except Str t) (k : Kd) : Prop :=
  ∃ te, PE X e te ∧ ∀ σ H F (Q : VK), Rel X.K G σ H F → p → (match r with
    | .ok x => ∀ v H' fp, Same H H' → Rep X.K H' fp v (enc x) → KdOk k (InS G F) H fp → Q v H'
    | .error c => ∀ H' u, X.mg c = some u → Same H H' → W u none σ H') → te σ H Q
theorem EX.er {t : Type} [Enc t] {x : t} {k : Kd} (h : EX X G e p x k) : ER X W G e p (.ok x) k := h
theorem er_call {x : Str} {k : Nat} {ps : List Str} {A R' : Type} [Enc R'] {encs : A → List D} {pre : A → Prop} {val : A → Except Str R'} (C : Cxf X N sc) (tk : Takes X W) (F : Cal X.prog X.w X.K X.mg X.base x k ps (spR X.K X.mg encs pre val)) (hr : Room k X.A) (hg : sc.names.lookup x = some .globalImplicit)
    (y : A) {kk : Kd} (ha : AX X G (e :: es) pa (encs y) kk) (c1 : Cmb pa (pre y) p) (hdb : (x == ("__debug__" : Str)) = false := by decide) (he : starEach (e :: es) X.env = (false, eval e X.env) :: starEach es X.env := by rfl) (hpl : (backTo pos (starEach es X.env)).any (·.1) = false := by rfl) :
    ER X W G (.Call (.Name x ppos) (e :: es) [] pos) p (val y) .frs := by
  obtain ⟨ta, a1, a2⟩ := ha
  obtain ⟨f, fd, hm, hk, hb, F⟩ := F.ex
  refine ⟨_, pe_callSD (E := WE W) F hr (C.gl hg) hm hk hb .nil (passAt tk) a1 hdb he hpl, fun σ H F Q R hp q => ?_⟩
  obtain ⟨hpa, hpr⟩ := c1.out hp
  refine a2 σ H F _ R hpa fun vs H1 fp s1 r1 _ => ?_
  rw [List.append_nil]
  refine ⟨y, fp, r1, hpr, ?_⟩
  generalize val y = r at q ⊢
  cases r with
  | error c => exact fun H' u hm s => q H' u hm (s1.trans s)
  | ok r => exact fun v H' fp' s r n f => q v H' fp' (s1.trans s) r ⟨n, fun a ha => s1.free (f a ha)⟩
/-- how a block goes on behind an expression that may raise -/
def exThen {t : Type} {S B R : Type} (r : Except Str t) (f : t → Out S B R) : Out S B R := match r with
  | .ok x => f x
  | .error c => .exc c
def exP {t : Type} (r : Except Str t) (f : t → Prop) : Prop := match r with
  | .ok x => f x
  | .error _ => True
theorem sx_setE {t : Type} [Enc t] {r : Except Str t} {y : Str} {pR : t → Prop} {oR : t → Out S B R} (m : Bool) (C : Cxf X N sc) (i : Nat) (V : Vs X N sc i y) (he : ER X W G e pa r .frs) (hR : ∀ x : t, SX X W (G.set i (.val m (enc x))) rest (pR x) g gb (oR x)) (c : Cmb pa (exP r pR) p) (hl : Nat.blt i G.length = true := by rfl)
    (hs : swapsWith e (some (.Name y ppos)) pos.line X.env = pure false := by rfl) : SX X W G (.Assign [.Name y ppos] e pos :: rest) p g gb (exThen r oR) := by
  obtain ⟨te, h1, h2⟩ := he
  refine ⟨_, pss_cons (ps_set (by rw [C.hN]; exact C.nd) (by rw [C.hN]; exact V.ix) (by rw [C.hs]; exact V.loc) h1 hs (by rw [C.hs]; exact V.fn)) (SX.canon hR), fun σ H F D Rl hp k => ?_⟩
  obtain ⟨hpa, hpR⟩ := c.out hp
  refine h2 σ H F _ Rl hpa ?_
  cases r with
  | error c => exact fun H' u hm s => k σ H' u hm fun b o e n => ⟨s b o e, id⟩
  | ok x =>
    intro v H1 fp s rv kd
    cases m with
    | true =>
      obtain ⟨a1, a2⟩ := Rl.put (i := i) (m := true) s rv (blt_lt hl) kd
      exact ⟨x, _, a1, hpR, OutOk.of (show OutOk X W G F H g gb D (oR x) from k) a2⟩
    | false =>
      have hk := Rl.shrN (KdOk.shr_of kd)
      obtain ⟨a1, a2⟩ := Rl.put (i := i) (m := false) s rv (blt_lt hl) hk
      exact ⟨x, _, a1, hpR, OutOk.of (show OutOk X W G F H g gb D (oR x) from k) a2⟩
/-- e; (its value dropped) -/
theorem sx_expr {t : Type} [Enc t] {r : Except Str t} {pR : Prop} {oR : Out S B R} {k : Kd} (he : ER X W G e pa r k) (hR : SX X W G rest pR g gb oR) (c : Cmb pa (exP r fun _ => pR) p) (hs : swapsWith e none pos.line X.env = pure false := by rfl) :
    SX X W G (.Expr e pos :: rest) p g gb (exThen r fun _ => oR) := by
  obtain ⟨te, h1, h2⟩ := he
  obtain ⟨ts, r1, r2⟩ := hR
  refine ⟨_, pss_cons (ps_expr h1 hs) r1, fun σ H F D Rl hp k => ?_⟩
  obtain ⟨hpa, hpR⟩ := c.out hp
  refine h2 σ H F _ Rl hpa ?_
  cases r with
  | error c => exact fun H' u hm s => k σ H' u hm fun b o e n => ⟨s b o e, id⟩
  | ok x => exact fun v H1 fp s rv kd => r2 σ H1 F D (Rl.same s) hpR (OutOk.of (show OutOk X W G F H g gb D oR from k) (Rl.frm s))
theorem sx_retE {R : Type} [Enc R] {r : Except Str R} (h : ER X W G e p r .frs) : SX X W G (.Return (some e) pos :: rest) p g gb (exThen r .ret : Out S B R) := by
  obtain ⟨te, h1, h2⟩ := h
  refine ⟨_, pss_cons (ps_ret h1) pss_never, fun σ H F D Rl hp k => h2 σ H F _ Rl hp ?_⟩
  cases r with
  | error c => exact fun H' u hm s => k σ H' u hm fun b o e n => ⟨s b o e, id⟩
  | ok x => exact fun v H' fp s r kd => k v H' fp r kd.1 (fun a ha => .inr (kd.2 a ha)) fun b o e n => ⟨s b o e, id⟩
end

/-! ### a def as a whole -/
section
variable {P : Program} {w : World} {K : PySem.W.Frag} {mg : Str → Option Value} {base : Heap} {x qual : Str} {params : Arguments} {body : List Stmt} {sc : Scope} {f : Addr} {fd : FuncData} {N ps : List Str}
/-- the slots at the entry -/
def g0 (n : Nat) (ds : List D) : Gam := ds.map (Slot.val false) ++ List.replicate (n - ds.length) Slot.no
theorem rel0 {H : Hp} {vs : List V} {ds : List D} {fp : List Addr} (N : List Str) (r : Reps K H fp vs ds) : ∃ F, Rel K (g0 N.length ds) (start N vs) H F ∧ ∀ a, ¬ InO (g0 N.length ds) F a := by
  have hl := r.length
  have nOwn : ∀ (i : Nat) d, (g0 N.length ds)[i]? ≠ some (.val true d) := fun i d e => by
    unfold g0 at e
    rw [List.getElem?_append] at e
    split at e
    · rw [List.getElem?_map] at e
      cases q : ds[i]? with
      | none => rw [q] at e; cases e
      | some u => rw [q] at e; cases e
    · rw [List.getElem?_replicate] at e
      split at e <;> cases e
  have nEx : ∀ (i : Nat) a, (g0 N.length ds)[i]? ≠ some (.exc a) := fun i d e => by
    unfold g0 at e
    rw [List.getElem?_append] at e
    split at e
    · rw [List.getElem?_map] at e
      cases q : ds[i]? with
      | none => rw [q] at e; cases e
      | some u => rw [q] at e; cases e
    · rw [List.getElem?_replicate] at e
      split at e <;> cases e
  have key : ∀ i : Nat, ∃ fpi : List Addr, ∀ d, ds[i]? = some d → ∃ v, vs[i]? = some v ∧ Rep K H fpi v d := fun i => by
    cases e : ds[i]? with
    | none => exact ⟨[], fun d h => by cases h⟩
    | some d =>
      obtain ⟨v, fp', e1, r1, _⟩ := r.get e
      exact ⟨fp', fun d' h => by cases h; exact ⟨v, e1, r1⟩⟩
  refine ⟨fun i => Classical.choose (key i), ⟨?_, fun i m d e => ?_, fun i d e => absurd e (nOwn i d), fun i j d m d' _ e => absurd e (nOwn i d), fun i a e => absurd e (nEx i a)⟩, fun a ⟨i, d, e, _⟩ => nOwn i d e⟩
  · unfold g0 L2.start
    simp [hl]
  · unfold g0 at e
    rw [List.getElem?_append] at e
    split at e
    · rename_i h
      rw [List.length_map] at h
      rw [List.getElem?_map] at e
      obtain ⟨u, q⟩ : ∃ u : D, ds[i]? = some u := ⟨ds[i], by simp [h]⟩
      rw [q] at e
      cases e
      obtain ⟨v, e1, r1⟩ := Classical.choose_spec (key i) _ q
      refine ⟨v, ?_, r1⟩
      unfold L2.start
      rw [List.getElem?_append_left (by rw [List.length_map, hl]; exact h), List.getElem?_map, e1]
      rfl
    · rw [List.getElem?_replicate] at e
      split at e <;> cases e
def outV {R : Type} : Out Empty Empty R → Except Str R
  | .ret r => .ok r
  | .exc c => .error c
  | .fall s => nomatch s
  | .brk s => nomatch s
  | .cnt s => nomatch s
def outU : Out Unit Empty Unit → Except Str Unit
  | .ret r => .ok r
  | .exc c => .error c
  | .fall _ => .ok ()
  | .brk s => nomatch s
  | .cnt s => nomatch s
abbrev WO (E : XK) : WX := fun cls d _ H => E cls d H
def noG : Empty → Gam := fun s => nomatch s
theorem fn_ok {k : Nat} {A R : Type} [Enc R] {encs : A → List D} {pre : A → Prop} {o : A → Out Empty Empty R} (F : FunD K x qual params body sc [] [] f fd) (S : FnScope N ps sc) (hlen : ∀ a, (encs a).length = ps.length)
    (hbody : ∀ (cdv : Value) (A' : Around) (outer : List PySem.Env) (s : Shared) (H : Hp) (E : XK), Room k (A'.deeper (PyProof.Rows.envOfC qual sc s.heap.objs.size f cdv)) → ∀ a : A, SX (cxOf (L2.CX P w) P w K mg base N qual sc f cdv A' outer s H E) (WO E) (g0 N.length (encs a)) body (pre a) noG noG (o a)) :
    FnOk P w K mg base (L2.CX P w) (k + 1) f fd ps (spR K mg encs pre fun a => outV (o a)) := by
  refine F.ok S (fun vs H Q E ⟨a, fp, r, _⟩ => by rw [r.length, hlen]) fun cdv A' outer s H vs Q E hr ⟨a, fp, r, hp, hk⟩ => ?_
  obtain ⟨ts, h1, h2⟩ := hbody cdv A' outer s H E hr a
  obtain ⟨F0, R0, n0⟩ := rel0 N r
  refine ⟨ts, h1, h2 _ H F0 _ R0 hp ?_⟩
  have hk : RPost K mg H Q E (outV (o a)) := hk
  generalize o a = oo at hk ⊢
  cases oo with
  | fall s => exact nomatch s
  | brk s => exact nomatch s
  | cnt s => exact nomatch s
  | ret r => exact fun v H' fp' r' n ha f => hk v H' fp' (fun b o e => (f b o e (n0 b)).1) r' n fun a z => (ha a z).elim (fun z => absurd z (n0 a)) id
  | exc c => exact fun σ' H' u hm f => hk H' u hm fun b o e => (f b o e (n0 b)).1
theorem fn_okU {k : Nat} {A : Type} {encs : A → List D} {pre : A → Prop} {o : A → Out Unit Empty Unit} {g : Unit → Gam} (F : FunD K x qual params body sc [] [] f fd) (S : FnScope N ps sc) (hlen : ∀ a, (encs a).length = ps.length)
    (hbody : ∀ (cdv : Value) (A' : Around) (outer : List PySem.Env) (s : Shared) (H : Hp) (E : XK), Room k (A'.deeper (PyProof.Rows.envOfC qual sc s.heap.objs.size f cdv)) → ∀ a : A, SX (cxOf (L2.CX P w) P w K mg base N qual sc f cdv A' outer s H E) (WO E) (g0 N.length (encs a)) body (pre a) g noG (o a)) :
    FnOk P w K mg base (L2.CX P w) (k + 1) f fd ps (spR K mg encs pre fun a => outU (o a)) := by
  refine F.ok S (fun vs H Q E ⟨a, fp, r, _⟩ => by rw [r.length, hlen]) fun cdv A' outer s H vs Q E hr ⟨a, fp, r, hp, hk⟩ => ?_
  obtain ⟨ts, h1, h2⟩ := hbody cdv A' outer s H E hr a
  obtain ⟨F0, R0, n0⟩ := rel0 N r
  refine ⟨ts, h1, h2 _ H F0 _ R0 hp ?_⟩
  have hk : RPost K mg H Q E (outU (o a)) := hk
  generalize o a = oo at hk ⊢
  cases oo with
  | fall s => exact fun σ' H' F' R' f => hk .non H' [] (fun b o e => (f b o e (n0 b)).1) .non List.nodup_nil fun _ h => nomatch h
  | brk s => exact nomatch s
  | cnt s => exact nomatch s
  | ret r => exact fun v H' fp' r' n ha f => hk v H' fp' (fun b o e => (f b o e (n0 b)).1) r' n fun a z => (ha a z).elim (fun z => absurd z (n0 a)) id
  | exc c => exact fun σ' H' u hm f => hk H' u hm fun b o e => (f b o e (n0 b)).1
/-- a nicer promise -/
theorem spR_imp {A R : Type} [Enc R] {encs : A → List D} {pre pre' : A → Prop} {val val' : A → Except Str R} (h : ∀ a, pre' a → pre a ∧ val a = val' a) : ∀ vs H Q E, spR K mg encs pre' val' vs H Q E → spR K mg encs pre val vs H Q E := fun vs H Q E ⟨a, fp, r, hp, k⟩ => by
  obtain ⟨h1, h2⟩ := h a hp
  exact ⟨a, fp, r, h1, by rw [h2]; exact k⟩
theorem cal_mk {k : Nat} {A R : Type} [Enc R] {encs : A → List D} {pre pre' : A → Prop} {val val' : A → Except Str R} (F : FunD K x qual params body sc [] [] f fd) (hm : mg x = some (.ref f)) (hb : Binds K fd ps [])
    (h : FnOk P w K mg base (L2.CX P w) k f fd ps (spR K mg encs pre val)) (hi : ∀ a, pre' a → pre a ∧ val a = val' a) : Cal P w K mg base x k ps (spR K mg encs pre' val') :=
  ⟨f, fd, hm, F.kp, hb, h.imp (spR_imp hi)⟩
theorem Cal.mono {j k : Nat} {sp : Sp} (h : Cal P w K mg base x j ps sp) (hjk : j ≤ k) : Cal P w K mg base x k ps sp := by
  obtain ⟨f, fd, h1, h2, h3, h4⟩ := h.ex
  exact ⟨f, fd, h1, h2, h3, h4.mono hjk⟩
end

/-! ### values of ends -/
section
variable {X : Cx} {G : Gam} {N : List Str} {sc : Scope} {e a b c : Expr} {p pa pb pr q : Prop} {pos ppos : Pos}
variable {W : WX} {S B R : Type} [Ret R] {g : S → Gam} {gb : B → Gam} {rest : List Stmt}
theorem sx_ifrV {x y : R} {sa : List Stmt} {bb : Bool} {pc : Prop} (hc : TX X G c pc bb) (ha : SX X W G sa pa g gb (.ret x : Out S B R)) (hb : SX X W G rest pb g gb (.ret y : Out S B R)) (cc : Cmb3 bb pc pa pb p) : SX X W G (.If c sa [] pos :: rest) p g gb (.ret (if bb = true then x else y) : Out S B R) := by
  have h := sx_ifr (pos := pos) hc ha (.ret x) hb cc
  cases bb <;> exact h
theorem sx_ifV {x y : R} {sa sb : List Stmt} {bb : Bool} {pc : Prop} (hc : TX X G c pc bb) (ha : SX X W G sa pa g gb (.ret x : Out S B R)) (hb : SX X W G sb pb g gb (.ret y : Out S B R)) (cc : Cmb3 bb pc pa pb p) : SX X W G [.If c sa sb pos] p g gb (.ret (if bb = true then x else y) : Out S B R) := by
  have h := (s1_if (pos := pos) hc ha hb cc).last
  cases bb <;> exact h
/-- nothing is raised, no loop is left -/
inductive NX {S B R : Type} : Out S B R → Prop
  | fall (s : S) : NX (.fall s)
  | brk (b : B) : NX (.brk b)
  | cnt (b : B) : NX (.cnt b)
  | ret (r : R) : NX (.ret r)
  | ite {b : Bool} {x y : Out S B R} : NX x → NX y → NX (if b = true then x else y)
theorem NX.out {o : Out S B R} (h : NX o) : ∀ c, o ≠ .exc c := by
  induction h with
  | fall s => intro c z; cases z
  | brk b => intro c z; cases z
  | cnt b => intro c z; cases z
  | ret b => intro c z; cases z
  | ite h1 h2 i1 i2 => split <;> assumption
/-- a loop's end: runs through, or hands back -/
def Fin2' {T B R : Type} (o : Out T B R) : Prop := match o with
  | .fall _ => True
  | .ret _ => True
  | _ => False
structure Fin2 {T B R : Type} (o : Out T B R) : Prop where
  h : Fin2' o
def valD {T B R : Type} (o : Out T B R) (d : R) (f : T → R) : R := match o with
  | .fall s => f s
  | .ret r => r
  | _ => d
theorem stepO_fin {L B R : Type} [Ret R] {o : Out L L R} {k : L → Out L B R} (h : NX o) (hk : ∀ s, Fin2 (k s)) : Fin2 (stepO o k) := by
  have := h.out
  cases o with
  | fall s => exact hk s
  | cnt s => exact hk s
  | brk s => exact ⟨trivial⟩
  | ret r => exact ⟨trivial⟩
  | exc c => exact absurd rfl (this c)
theorem loopL_fin {L t B R : Type} [Ret R] {f : L → t → Out L L R} (h : ∀ s x, NX (f s x)) : ∀ (xs : List t) (s : L), Fin2 (loopL f s xs : Out L B R)
  | [], _ => ⟨trivial⟩
  | x :: xs, s => stepO_fin (h s x) fun s' => loopL_fin h xs s'
theorem whileL_fin {L B R : Type} [Ret R] {b : L → Bool} {f : L → Out L L R} (h : ∀ s, NX (f s)) : ∀ (n : Nat) (s : L), Fin2 (whileL b f n s : Out L B R)
  | 0, _ => ⟨trivial⟩
  | n + 1, s => by
    show Fin2 (if b s = true then stepO (f s) fun s' => whileL b f n s' else .fall s)
    split
    · exact stepO_fin (h s) fun s' => whileL_fin h n s'
    · exact ⟨trivial⟩
theorem S1.bindV {T : Type} {g1 : T → Gam} {st : Stmt} {o1 : Out T B R} {pR : T → Prop} {fR : T → R} (h1 : S1 X W G st pa g1 gb o1) (d : R) (hf : Fin2 o1) (hR : ∀ s : T, SX X W (g1 s) rest (pR s) g gb (.ret (fR s) : Out S B R)) (c : Cmb pa (o1.Then pR) p) : SX X W G (st :: rest) p g gb (.ret (valD o1 d fR) : Out S B R) := by
  have h := h1.bind hR c
  cases o1 with
  | fall s => exact h
  | ret r => exact h
  | brk b => exact hf.h.elim
  | cnt b => exact hf.h.elim
  | exc c => exact hf.h.elim
end
end BW

set_option Elab.async false
set_option linter.all false
set_option maxRecDepth 100000
set_option maxHeartbeats 4000000
/-! The rules for values and for states; isinstance; further forms. -/
namespace BW
open PySem L2

section
variable {X : Cx} {G : Gam} {N : List Str} {sc : Scope} {e a b c : Expr} {es : List Expr} {p pa pb pr q pI pF : Prop} {pos ppos : Pos}
variable {W : WX} {S B R : Type} [Ret R] {g : S → Gam} {gb : B → Gam} {rest : List Stmt}
theorem sx_setV {t : Type} [Enc t] {x : t} {y : Str} {pR : t → Prop} {rR : t → R} (C : Cx0 X N sc) (i : Nat) (V : Vs X N sc i y) (he : EX X G e pa x .shr) (hR : ∀ x : t, SX X W (G.set i (.val false (enc x))) rest (pR x) g gb (.ret (rR x) : Out S B R)) (c : Cmb pa (lt x pR) p) (hl : Nat.blt i G.length = true := by rfl) (hs : swapsWith e (some (.Name y ppos)) pos.line X.env = pure false := by rfl) : SX X W G (.Assign [.Name y ppos] e pos :: rest) p g gb (.ret (lt x rR) : Out S B R) :=
  sx_set (oR := fun x => (.ret (rR x) : Out S B R)) (C := C) (i := i) (V := V) (he := he) (hR := hR) (c := c) (hl := hl) (hs := hs)
theorem sx_setF {t : Type} [Enc t] {x : t} {y : Str} {pR : t → Prop} {rR : t → S} (C : Cx0 X N sc) (i : Nat) (V : Vs X N sc i y) (he : EX X G e pa x .shr) (hR : ∀ x : t, SX X W (G.set i (.val false (enc x))) rest (pR x) g gb (.fall (rR x) : Out S B R)) (c : Cmb pa (lt x pR) p) (hl : Nat.blt i G.length = true := by rfl) (hs : swapsWith e (some (.Name y ppos)) pos.line X.env = pure false := by rfl) : SX X W G (.Assign [.Name y ppos] e pos :: rest) p g gb (.fall (lt x rR) : Out S B R) :=
  sx_set (oR := fun x => (.fall (rR x) : Out S B R)) (C := C) (i := i) (V := V) (he := he) (hR := hR) (c := c) (hl := hl) (hs := hs)
theorem sx_ownV {t : Type} [Enc t] {x : t} {y : Str} {pR : t → Prop} {rR : t → R} (C : Cx0 X N sc) (i : Nat) (V : Vs X N sc i y) (he : EX X G e pa x .frs) (hR : ∀ x : t, SX X W (G.set i (.val true (enc x))) rest (pR x) g gb (.ret (rR x) : Out S B R)) (c : Cmb pa (lt x pR) p) (hl : Nat.blt i G.length = true := by rfl) (hs : swapsWith e (some (.Name y ppos)) pos.line X.env = pure false := by rfl) : SX X W G (.Assign [.Name y ppos] e pos :: rest) p g gb (.ret (lt x rR) : Out S B R) :=
  sx_own (oR := fun x => (.ret (rR x) : Out S B R)) (C := C) (i := i) (V := V) (he := he) (hR := hR) (c := c) (hl := hl) (hs := hs)
theorem sx_ownF {t : Type} [Enc t] {x : t} {y : Str} {pR : t → Prop} {rR : t → S} (C : Cx0 X N sc) (i : Nat) (V : Vs X N sc i y) (he : EX X G e pa x .frs) (hR : ∀ x : t, SX X W (G.set i (.val true (enc x))) rest (pR x) g gb (.fall (rR x) : Out S B R)) (c : Cmb pa (lt x pR) p) (hl : Nat.blt i G.length = true := by rfl) (hs : swapsWith e (some (.Name y ppos)) pos.line X.env = pure false := by rfl) : SX X W G (.Assign [.Name y ppos] e pos :: rest) p g gb (.fall (lt x rR) : Out S B R) :=
  sx_own (oR := fun x => (.fall (rR x) : Out S B R)) (C := C) (i := i) (V := V) (he := he) (hR := hR) (c := c) (hl := hl) (hs := hs)
theorem sx_setLcV {u : Type} [Enc u] {ys : List u} {y : Str} {elt tg iter : Expr} {ifs : List Expr} {scope : Scope} {own : List (Str × Nat)} {lpos py : Pos} {pR : List u → Prop} {rR : List u → R} {kd : Kd} (m : Bool) (C : Cxf X N sc) (i : Nat) (V : N[i]? = some y) (hy : sc.names.lookup y = some .local) (h : LCX X N sc G elt tg iter ifs scope own pa ys kd) (hm : kd = if m then .frs else .shr) (hR : ∀ x : List u, SX X W (G.set i (.val m (enc x))) rest (pR x) g gb (.ret (rR x) : Out S B R)) (c : Cmb pa (lt ys pR) p) (hkd : sc.kind = .function) (hll : (py.line == lpos.line) = true) (ha : (scope.names.any fun (n, k) => n == y && (k == .local || k == .cell)) = false) (hl : Nat.blt i G.length = true := by rfl) (hs : ∀ x, foldedSetIterable iter X.env x = pure x := by intro _; rfl) : SX X W G (.Assign [.Name y py] (.ListComp elt [⟨tg, iter, ifs, 0⟩] scope lpos) pos :: rest) p g gb (.ret (lt ys rR) : Out S B R) :=
  sx_setLc (oR := fun x => (.ret (rR x) : Out S B R)) (m := m) (C := C) (i := i) (V := V) (hy := hy) (h := h) (hm := hm) (hR := hR) (c := c) (hkd := hkd) (hll := hll) (ha := ha) (hl := hl) (hs := hs)
theorem sx_setLcF {u : Type} [Enc u] {ys : List u} {y : Str} {elt tg iter : Expr} {ifs : List Expr} {scope : Scope} {own : List (Str × Nat)} {lpos py : Pos} {pR : List u → Prop} {rR : List u → S} {kd : Kd} (m : Bool) (C : Cxf X N sc) (i : Nat) (V : N[i]? = some y) (hy : sc.names.lookup y = some .local) (h : LCX X N sc G elt tg iter ifs scope own pa ys kd) (hm : kd = if m then .frs else .shr) (hR : ∀ x : List u, SX X W (G.set i (.val m (enc x))) rest (pR x) g gb (.fall (rR x) : Out S B R)) (c : Cmb pa (lt ys pR) p) (hkd : sc.kind = .function) (hll : (py.line == lpos.line) = true) (ha : (scope.names.any fun (n, k) => n == y && (k == .local || k == .cell)) = false) (hl : Nat.blt i G.length = true := by rfl) (hs : ∀ x, foldedSetIterable iter X.env x = pure x := by intro _; rfl) : SX X W G (.Assign [.Name y py] (.ListComp elt [⟨tg, iter, ifs, 0⟩] scope lpos) pos :: rest) p g gb (.fall (lt ys rR) : Out S B R) :=
  sx_setLc (oR := fun x => (.fall (rR x) : Out S B R)) (m := m) (C := C) (i := i) (V := V) (hy := hy) (h := h) (hm := hm) (hR := hR) (c := c) (hkd := hkd) (hll := hll) (ha := ha) (hl := hl) (hs := hs)
theorem sx_tgtV {t : Type} [Enc t] {x : t} {tg : Expr} {n : Nat} {is : List Nat} {T : Gam → t → Gam} {pR : t → Prop} {rR : t → R} (hT : TGT X n tg is T) (hn : G.length = n) (hno : notOwn G is = true) (he : EX X G e pa x .shr) (hR : ∀ x : t, SX X W (T G x) rest (pR x) g gb (.ret (rR x) : Out S B R)) (c : Cmb pa (lt x pR) p) (hs : swapsWithSole [tg] e pos.line X.env = pure false := by rfl) (hw : swappedStores [tg] e X.env = pure none := by rfl) (hh : (assignEach [tg] X.env).map (·.2) = [assign tg X.env] := by rfl) : SX X W G (.Assign [tg] e pos :: rest) p g gb (.ret (lt x rR) : Out S B R) :=
  sx_tgt (oR := fun x => (.ret (rR x) : Out S B R)) (hT := hT) (hn := hn) (hno := hno) (he := he) (hR := hR) (c := c) (hs := hs) (hw := hw) (hh := hh)
theorem sx_tgtF {t : Type} [Enc t] {x : t} {tg : Expr} {n : Nat} {is : List Nat} {T : Gam → t → Gam} {pR : t → Prop} {rR : t → S} (hT : TGT X n tg is T) (hn : G.length = n) (hno : notOwn G is = true) (he : EX X G e pa x .shr) (hR : ∀ x : t, SX X W (T G x) rest (pR x) g gb (.fall (rR x) : Out S B R)) (c : Cmb pa (lt x pR) p) (hs : swapsWithSole [tg] e pos.line X.env = pure false := by rfl) (hw : swappedStores [tg] e X.env = pure none := by rfl) (hh : (assignEach [tg] X.env).map (·.2) = [assign tg X.env] := by rfl) : SX X W G (.Assign [tg] e pos :: rest) p g gb (.fall (lt x rR) : Out S B R) :=
  sx_tgt (oR := fun x => (.fall (rR x) : Out S B R)) (hT := hT) (hn := hn) (hno := hno) (he := he) (hR := hR) (c := c) (hs := hs) (hw := hw) (hh := hh)
theorem S1.seqV {T : Type} {g1 : T → Gam} {st : Stmt} {x : T} {pR : T → Prop} {rR : T → R} (h1 : S1 X W G st pa g1 gb (.fall x : Out T B R)) (hR : ∀ s : T, SX X W (g1 s) rest (pR s) g gb (.ret (rR s) : Out S B R)) (c : Cmb pa (lt x pR) p) : SX X W G (st :: rest) p g gb (.ret (lt x rR) : Out S B R) :=
  S1.seq (oR := fun x => (.ret (rR x) : Out S B R)) (h1 := h1) (hR := hR) (c := c)
theorem S1.seqF {T : Type} {g1 : T → Gam} {st : Stmt} {x : T} {pR : T → Prop} {rR : T → S} (h1 : S1 X W G st pa g1 gb (.fall x : Out T B R)) (hR : ∀ s : T, SX X W (g1 s) rest (pR s) g gb (.fall (rR s) : Out S B R)) (c : Cmb pa (lt x pR) p) : SX X W G (st :: rest) p g gb (.fall (lt x rR) : Out S B R) :=
  S1.seq (oR := fun x => (.fall (rR x) : Out S B R)) (h1 := h1) (hR := hR) (c := c)
theorem sx_ifsV {T : Type} {g1 : T → Gam} {xa xb : T} {sa sb : List Stmt} {bb : Bool} {pc pi : Prop} {pR : T → Prop} {rR : T → R} (hc : TX X G c pc bb) (ha : SX X W G sa pa g1 gb (.fall xa : Out T B R)) (hb : SX X W G sb pb g1 gb (.fall xb : Out T B R)) (cc : Cmb3 bb pc pa pb pi) (hR : ∀ s : T, SX X W (g1 s) rest (pR s) g gb (.ret (rR s) : Out S B R)) (c2 : Cmb pi (lt (if bb = true then xa else xb) pR) p) : SX X W G (.If c sa sb pos :: rest) p g gb (.ret (lt (if bb = true then xa else xb) rR) : Out S B R) :=
  sx_ifs (oR := fun x => (.ret (rR x) : Out S B R)) (hc := hc) (ha := ha) (hb := hb) (cc := cc) (hR := hR) (c2 := c2)
theorem sx_ifsF {T : Type} {g1 : T → Gam} {xa xb : T} {sa sb : List Stmt} {bb : Bool} {pc pi : Prop} {pR : T → Prop} {rR : T → S} (hc : TX X G c pc bb) (ha : SX X W G sa pa g1 gb (.fall xa : Out T B R)) (hb : SX X W G sb pb g1 gb (.fall xb : Out T B R)) (cc : Cmb3 bb pc pa pb pi) (hR : ∀ s : T, SX X W (g1 s) rest (pR s) g gb (.fall (rR s) : Out S B R)) (c2 : Cmb pi (lt (if bb = true then xa else xb) pR) p) : SX X W G (.If c sa sb pos :: rest) p g gb (.fall (lt (if bb = true then xa else xb) rR) : Out S B R) :=
  sx_ifs (oR := fun x => (.fall (rR x) : Out S B R)) (hc := hc) (ha := ha) (hb := hb) (cc := cc) (hR := hR) (c2 := c2)
theorem sx_appendV {t : Type} [Enc t] {xs : List t} {x : t} {y : Str} {apos cpos npos : Pos} {pR : List t → Prop} {rR : List t → R} {p1 : Prop} (C : Cx0 X N sc) (i : Nat) (V : Vr N sc i y) (he : EX X G e pa x .frs) (hR : ∀ zs : List t, SX X W (G.set i (.val true (enc zs))) rest (pR zs) g gb (.ret (rR zs) : Out S B R)) (c1 : Cmb pa (LenOk (xs.length + 1)) p1) (c2 : Cmb p1 (lt (xs ++ [x]) pR) p) (h : G[i]? = some (.val true (enc xs)) := by rfl) (hbase : attributeBase (.Name y npos) "append" X.env (eval (.Name y npos) X.env) = eval (.Name y npos) X.env := by rfl) (hfew : ((backTo cpos (starEach [e] X.env)).all (fun x => !x.1) && (backToKw cpos (keywordEach [] X.env)).all (fun x => x.1.isSome) && decide ([e].length + ([] : List Keyword).length + (if ([] : List Keyword).isEmpty then 0 else 1) < 30)) = true := by rfl) (hline : (apos.endLine == cpos.line) = true := by rfl) (hst : starEach [e] X.env = (false, eval e X.env) :: starEach [] X.env := by rfl) (hplain : (backTo cpos (starEach [] X.env)).any (·.1) = false := by rfl) (hs : swapsWith (.Call (.Attribute (.Name y npos) "append" apos) [e] [] cpos) none pos.line X.env = pure false := by rfl) : SX X W G (.Expr (.Call (.Attribute (.Name y npos) "append" apos) [e] [] cpos) pos :: rest) p g gb (.ret (lt (xs ++ [x]) rR) : Out S B R) :=
  sx_append (oR := fun x => (.ret (rR x) : Out S B R)) (C := C) (i := i) (V := V) (he := he) (hR := hR) (c1 := c1) (c2 := c2) (h := h) (hbase := hbase) (hfew := hfew) (hline := hline) (hst := hst) (hplain := hplain) (hs := hs)
theorem sx_appendF {t : Type} [Enc t] {xs : List t} {x : t} {y : Str} {apos cpos npos : Pos} {pR : List t → Prop} {rR : List t → S} {p1 : Prop} (C : Cx0 X N sc) (i : Nat) (V : Vr N sc i y) (he : EX X G e pa x .frs) (hR : ∀ zs : List t, SX X W (G.set i (.val true (enc zs))) rest (pR zs) g gb (.fall (rR zs) : Out S B R)) (c1 : Cmb pa (LenOk (xs.length + 1)) p1) (c2 : Cmb p1 (lt (xs ++ [x]) pR) p) (h : G[i]? = some (.val true (enc xs)) := by rfl) (hbase : attributeBase (.Name y npos) "append" X.env (eval (.Name y npos) X.env) = eval (.Name y npos) X.env := by rfl) (hfew : ((backTo cpos (starEach [e] X.env)).all (fun x => !x.1) && (backToKw cpos (keywordEach [] X.env)).all (fun x => x.1.isSome) && decide ([e].length + ([] : List Keyword).length + (if ([] : List Keyword).isEmpty then 0 else 1) < 30)) = true := by rfl) (hline : (apos.endLine == cpos.line) = true := by rfl) (hst : starEach [e] X.env = (false, eval e X.env) :: starEach [] X.env := by rfl) (hplain : (backTo cpos (starEach [] X.env)).any (·.1) = false := by rfl) (hs : swapsWith (.Call (.Attribute (.Name y npos) "append" apos) [e] [] cpos) none pos.line X.env = pure false := by rfl) : SX X W G (.Expr (.Call (.Attribute (.Name y npos) "append" apos) [e] [] cpos) pos :: rest) p g gb (.fall (lt (xs ++ [x]) rR) : Out S B R) :=
  sx_append (oR := fun x => (.fall (rR x) : Out S B R)) (C := C) (i := i) (V := V) (he := he) (hR := hR) (c1 := c1) (c2 := c2) (h := h) (hbase := hbase) (hfew := hfew) (hline := hline) (hst := hst) (hplain := hplain) (hs := hs)
theorem sx_extendV {t : Type} [Enc t] {xs ys : List t} {y : Str} {apos cpos npos : Pos} {pR : List t → Prop} {rR : List t → R} {p1 : Prop} (C : Cxf X N sc) (i : Nat) (V : Vr N sc i y) (he : EX X G e pa ys .frs) (hR : ∀ zs : List t, SX X W (G.set i (.val true (enc zs))) rest (pR zs) g gb (.ret (rR zs) : Out S B R)) (c1 : Cmb pa (LenOk (xs.length + ys.length)) p1) (c2 : Cmb p1 (lt (xs ++ ys) pR) p) (h : G[i]? = some (.val true (enc xs)) := by rfl) (hbase : attributeBase (.Name y npos) "extend" X.env (eval (.Name y npos) X.env) = eval (.Name y npos) X.env := by rfl) (hfew : ((backTo cpos (starEach [e] X.env)).all (fun x => !x.1) && (backToKw cpos (keywordEach [] X.env)).all (fun x => x.1.isSome) && decide ([e].length + ([] : List Keyword).length + (if ([] : List Keyword).isEmpty then 0 else 1) < 30)) = true := by rfl) (hline : (apos.endLine == cpos.line) = true := by rfl) (hst : starEach [e] X.env = (false, eval e X.env) :: starEach [] X.env := by rfl) (hplain : (backTo cpos (starEach [] X.env)).any (·.1) = false := by rfl) (hs : swapsWith (.Call (.Attribute (.Name y npos) "extend" apos) [e] [] cpos) none pos.line X.env = pure false := by rfl) : SX X W G (.Expr (.Call (.Attribute (.Name y npos) "extend" apos) [e] [] cpos) pos :: rest) p g gb (.ret (lt (xs ++ ys) rR) : Out S B R) :=
  sx_extend (oR := fun x => (.ret (rR x) : Out S B R)) (C := C) (i := i) (V := V) (he := he) (hR := hR) (c1 := c1) (c2 := c2) (h := h) (hbase := hbase) (hfew := hfew) (hline := hline) (hst := hst) (hplain := hplain) (hs := hs)
theorem sx_extendF {t : Type} [Enc t] {xs ys : List t} {y : Str} {apos cpos npos : Pos} {pR : List t → Prop} {rR : List t → S} {p1 : Prop} (C : Cxf X N sc) (i : Nat) (V : Vr N sc i y) (he : EX X G e pa ys .frs) (hR : ∀ zs : List t, SX X W (G.set i (.val true (enc zs))) rest (pR zs) g gb (.fall (rR zs) : Out S B R)) (c1 : Cmb pa (LenOk (xs.length + ys.length)) p1) (c2 : Cmb p1 (lt (xs ++ ys) pR) p) (h : G[i]? = some (.val true (enc xs)) := by rfl) (hbase : attributeBase (.Name y npos) "extend" X.env (eval (.Name y npos) X.env) = eval (.Name y npos) X.env := by rfl) (hfew : ((backTo cpos (starEach [e] X.env)).all (fun x => !x.1) && (backToKw cpos (keywordEach [] X.env)).all (fun x => x.1.isSome) && decide ([e].length + ([] : List Keyword).length + (if ([] : List Keyword).isEmpty then 0 else 1) < 30)) = true := by rfl) (hline : (apos.endLine == cpos.line) = true := by rfl) (hst : starEach [e] X.env = (false, eval e X.env) :: starEach [] X.env := by rfl) (hplain : (backTo cpos (starEach [] X.env)).any (·.1) = false := by rfl) (hs : swapsWith (.Call (.Attribute (.Name y npos) "extend" apos) [e] [] cpos) none pos.line X.env = pure false := by rfl) : SX X W G (.Expr (.Call (.Attribute (.Name y npos) "extend" apos) [e] [] cpos) pos :: rest) p g gb (.fall (lt (xs ++ ys) rR) : Out S B R) :=
  sx_extend (oR := fun x => (.fall (rR x) : Out S B R)) (C := C) (i := i) (V := V) (he := he) (hR := hR) (c1 := c1) (c2 := c2) (h := h) (hbase := hbase) (hfew := hfew) (hline := hline) (hst := hst) (hplain := hplain) (hs := hs)
theorem sx_reverseV {t : Type} [Enc t] [Flat t] {xs : List t} {y : Str} {apos cpos npos : Pos} {pR : List t → Prop} {rR : List t → R} (C : Cxf X N sc) (i : Nat) (V : Vr N sc i y) (hR : ∀ zs : List t, SX X W (G.set i (.val true (enc zs))) rest (pR zs) g gb (.ret (rR zs) : Out S B R)) (h : G[i]? = some (.val true (enc xs)) := by rfl) (hbase : attributeBase (.Name y npos) "reverse" X.env (eval (.Name y npos) X.env) = eval (.Name y npos) X.env := by rfl) (hline : (apos.endLine == cpos.line) = true := by rfl) (hs : swapsWith (.Call (.Attribute (.Name y npos) "reverse" apos) [] [] cpos) none pos.line X.env = pure false := by rfl) : SX X W G (.Expr (.Call (.Attribute (.Name y npos) "reverse" apos) [] [] cpos) pos :: rest) (lt xs.reverse pR) g gb (.ret (lt xs.reverse rR) : Out S B R) :=
  sx_reverse (oR := fun x => (.ret (rR x) : Out S B R)) (C := C) (i := i) (V := V) (hR := hR) (h := h) (hbase := hbase) (hline := hline) (hs := hs)
theorem sx_reverseF {t : Type} [Enc t] [Flat t] {xs : List t} {y : Str} {apos cpos npos : Pos} {pR : List t → Prop} {rR : List t → S} (C : Cxf X N sc) (i : Nat) (V : Vr N sc i y) (hR : ∀ zs : List t, SX X W (G.set i (.val true (enc zs))) rest (pR zs) g gb (.fall (rR zs) : Out S B R)) (h : G[i]? = some (.val true (enc xs)) := by rfl) (hbase : attributeBase (.Name y npos) "reverse" X.env (eval (.Name y npos) X.env) = eval (.Name y npos) X.env := by rfl) (hline : (apos.endLine == cpos.line) = true := by rfl) (hs : swapsWith (.Call (.Attribute (.Name y npos) "reverse" apos) [] [] cpos) none pos.line X.env = pure false := by rfl) : SX X W G (.Expr (.Call (.Attribute (.Name y npos) "reverse" apos) [] [] cpos) pos :: rest) (lt xs.reverse pR) g gb (.fall (lt xs.reverse rR) : Out S B R) :=
  sx_reverse (oR := fun x => (.fall (rR x) : Out S B R)) (C := C) (i := i) (V := V) (hR := hR) (h := h) (hbase := hbase) (hline := hline) (hs := hs)
theorem sx_setitemV {t : Type} [Enc t] [Flat t] {xs : List t} {x : t} {ix : Int} {y : Str} {npos spos : Pos} {kx ky : Kd} {pR : List t → Prop} {rR : List t → R} {p1 p2 : Prop} (C : Cxf X N sc) (i : Nat) (V : Vr N sc i y) (he : EX X G e pa x kx) (hi : EX X G a pb ix ky) (hR : ∀ zs : List t, SX X W (G.set i (.val true (enc zs))) rest (pR zs) g gb (.ret (rR zs) : Out S B R)) (c1 : Cmb pa pb p1) (c2 : Cmb p1 (IxOk xs.length ix) p2) (c3 : Cmb p2 (lt (pySet xs ix x) pR) p) (h : G[i]? = some (.val true (enc xs)) := by rfl) (hs : swapsWithSole [.Subscript (.Name y npos) a spos] e pos.line X.env = pure false := by rfl) (hw : swappedStores [.Subscript (.Name y npos) a spos] e X.env = pure none := by rfl) (hh : (assignEach [.Subscript (.Name y npos) a spos] X.env).map (·.2) = [assign (.Subscript (.Name y npos) a spos) X.env] := by rfl) (hsub : ∀ v, assign (.Subscript (.Name y npos) a spos) X.env v = (do let ov ← holding [v] (eval (.Name y npos) X.env); let iv ← holding [v, ov] (eval a X.env); standAt spos; holding [v, ov, iv] (setItem ov iv v); release [v, ov, iv] []) := by intro _; rfl) : SX X W G (.Assign [.Subscript (.Name y npos) a spos] e pos :: rest) p g gb (.ret (lt (pySet xs ix x) rR) : Out S B R) :=
  sx_setitem (oR := fun x => (.ret (rR x) : Out S B R)) (C := C) (i := i) (V := V) (he := he) (hi := hi) (hR := hR) (c1 := c1) (c2 := c2) (c3 := c3) (h := h) (hs := hs) (hw := hw) (hh := hh) (hsub := hsub)
theorem sx_setitemF {t : Type} [Enc t] [Flat t] {xs : List t} {x : t} {ix : Int} {y : Str} {npos spos : Pos} {kx ky : Kd} {pR : List t → Prop} {rR : List t → S} {p1 p2 : Prop} (C : Cxf X N sc) (i : Nat) (V : Vr N sc i y) (he : EX X G e pa x kx) (hi : EX X G a pb ix ky) (hR : ∀ zs : List t, SX X W (G.set i (.val true (enc zs))) rest (pR zs) g gb (.fall (rR zs) : Out S B R)) (c1 : Cmb pa pb p1) (c2 : Cmb p1 (IxOk xs.length ix) p2) (c3 : Cmb p2 (lt (pySet xs ix x) pR) p) (h : G[i]? = some (.val true (enc xs)) := by rfl) (hs : swapsWithSole [.Subscript (.Name y npos) a spos] e pos.line X.env = pure false := by rfl) (hw : swappedStores [.Subscript (.Name y npos) a spos] e X.env = pure none := by rfl) (hh : (assignEach [.Subscript (.Name y npos) a spos] X.env).map (·.2) = [assign (.Subscript (.Name y npos) a spos) X.env] := by rfl) (hsub : ∀ v, assign (.Subscript (.Name y npos) a spos) X.env v = (do let ov ← holding [v] (eval (.Name y npos) X.env); let iv ← holding [v, ov] (eval a X.env); standAt spos; holding [v, ov, iv] (setItem ov iv v); release [v, ov, iv] []) := by intro _; rfl) : SX X W G (.Assign [.Subscript (.Name y npos) a spos] e pos :: rest) p g gb (.fall (lt (pySet xs ix x) rR) : Out S B R) :=
  sx_setitem (oR := fun x => (.fall (rR x) : Out S B R)) (C := C) (i := i) (V := V) (he := he) (hi := hi) (hR := hR) (c1 := c1) (c2 := c2) (c3 := c3) (h := h) (hs := hs) (hw := hw) (hh := hh) (hsub := hsub)
theorem sx_augV {x z : Int} {y : Str} {kx : Kd} {pR : Int → Prop} {rR : Int → R} (C : Cxf X N sc) (i : Nat) (V : Vs X N sc i y) (he : EX X G e pa z kx) (hR : ∀ x : Int, SX X W (G.set i (.val false (enc x))) rest (pR x) g gb (.ret (rR x) : Out S B R)) (c : Cmb pa (lt (x + z) pR) p) {m : Bool} (h : G[i]? = some (.val m (enc x)) := by rfl) : SX X W G (.AugAssign (.Name y ppos) .Add e pos :: rest) p g gb (.ret (lt (x + z) rR) : Out S B R) :=
  sx_aug (oR := fun x => (.ret (rR x) : Out S B R)) (C := C) (i := i) (V := V) (he := he) (hR := hR) (c := c) (h := h)
theorem sx_augF {x z : Int} {y : Str} {kx : Kd} {pR : Int → Prop} {rR : Int → S} (C : Cxf X N sc) (i : Nat) (V : Vs X N sc i y) (he : EX X G e pa z kx) (hR : ∀ x : Int, SX X W (G.set i (.val false (enc x))) rest (pR x) g gb (.fall (rR x) : Out S B R)) (c : Cmb pa (lt (x + z) pR) p) {m : Bool} (h : G[i]? = some (.val m (enc x)) := by rfl) : SX X W G (.AugAssign (.Name y ppos) .Add e pos :: rest) p g gb (.fall (lt (x + z) rR) : Out S B R) :=
  sx_aug (oR := fun x => (.fall (rR x) : Out S B R)) (C := C) (i := i) (V := V) (he := he) (hR := hR) (c := c) (h := h)
theorem vr {N : List Str} {sc : Scope} {x : Str} (i : Nat) (hN : N[i]? = some x := by rfl) (hv : Vis sc x := by first | exact Or.inl rfl | exact Or.inr (Or.inl rfl) | exact Or.inr (Or.inr rfl)) (hd : (x == ("__debug__" : Str)) = false := by decide) (hc : (x == ("__classdict__" : Str)) = false := by decide) : Vr N sc i x := ⟨hN, hv, hd, hc⟩
theorem vl {X : Cx} {N : List Str} {sc : Scope} {x : Str} (i : Nat) (hN : N[i]? = some x := by rfl) (l : sc.names.lookup x = some .local := by rfl) : Vs X N sc i x := .local hN l
theorem vc {X : Cx} {N : List Str} {sc : Scope} {x : Str} (f : X.fn = fun _ => true) (i : Nat) (hN : N[i]? = some x := by rfl) (l : sc.names.lookup x = some .cell := by rfl) : Vs X N sc i x := .cell hN l f

/-! isinstance(x, T), T a built-in class -/
def tyName : D → String
  | .non => "NoneType"
  | .bl _ => "bool"
  | .int _ => "int"
  | .str _ => "str"
  | .lst _ => "list"
  | .tup _ => "tuple"
  | .scr _ => "list"
  | .obj _ _ _ _ => "object"
  | .dic _ _ => "dict"
def D.isObj : D → Bool
  | .obj _ _ _ _ => true
  | .dic _ _ => true
  | _ => false
def isIns (d : D) (t : String) : Bool := (kitB (tyName d) t).getD false
theorem kitB_ok (d : D) (ho : d.isObj = false) {t : String} (h : (["NoneType", "bool", "int", "str", "list", "tuple"].all fun u => (kitB u t).isSome) = true) : kitB (tyName d) t = some (isIns d t) := by
  have q : ∀ u ∈ ["NoneType", "bool", "int", "str", "list", "tuple"], kitB u t = some ((kitB u t).getD false) := fun u hu => by
    have := List.all_eq_true.mp h u hu
    cases e : kitB u t with
    | none => rw [e] at this; cases this
    | some b => rfl
  unfold isIns
  cases d with
  | obj w c k ds => cases ho
  | dic k ds => cases ho
  | _ => exact q _ (by simp [tyName])
theorem Rep.tyx {K : PySem.W.Frag} {H : Hp} {fp : List Addr} {v : V} {d : D} (ho : d.isObj = false) (r : Rep K H fp v d) : TyX K H v (.type (tyName d)) := by
  cases r with
  | non => exact .base .non
  | bl b => exact .base (.bl b)
  | int i => exact .base (.int i)
  | str x => exact .base (.str x)
  | lst h _ => exact .base (.lst h)
  | scr h =>
    rcases h with ⟨o, h⟩ | h
    · exact .base (.frz h)
    · rcases h (fun _ => none) with (h | ⟨_, h⟩) | ⟨o, its, n, e, c, _⟩
      · cases h
      · cases h
      · exact .kList e c
  | tup h _ =>
    rcases h with (h | ⟨o, h⟩) | ⟨o, its, n, e, c, _⟩
    · exact .base (.tup h)
    · exact .fTuple h
    · exact .kTuple e c
  | obj _ _ _ _ => cases ho
  | dic _ _ _ => cases ho
theorem ex_isi {t : Type} [Enc t] {x : t} {k : Kd} {T : Str} {U : String} {p2 : Pos} (z : Bool) (C : Cxf X N sc) (hg : sc.names.lookup ("isinstance" : Str) = some .globalImplicit) (hm : X.mg "isinstance" = none) (hgT : sc.names.lookup T = some .globalImplicit) (hmT : X.mg T = none) (hbT : bootBuiltins T = some (.type U)) (ha : EX X G a p x k)
    (hz : isIns (enc x) U = z := by rfl) (hob : D.isObj (enc x) = false := by first | rfl | (show D.isObj (Enc.enc _) = false; simp only [Enc.enc]; split <;> rfl)) (hk : (["NoneType", "bool", "int", "str", "list", "tuple"].all fun u => (kitB u U).isSome) = true := by decide +kernel) (hn : T ≠ "__name__" := by decide) (hd : (T == ("__debug__" : Str)) = false := by decide) (hs : starEach [a, .Name T p2] X.env = (false, eval a X.env) :: starEach [.Name T p2] X.env := by rfl) (hpl : (backTo pos (starEach [.Name T p2] X.env)).any (·.1) = false := by rfl) :
    EX X G (.Call (.Name "isinstance" ppos) [a, .Name T p2] [] pos) p z .frs := by
  obtain ⟨ta, a1, a2⟩ := ha
  refine ⟨_, pe_callB call_isi (C.gl hg) hm PyProof.Rows.boot_isinstance (pa_cons a1 (pa_cons (pe_bltn (v := .ty U) (C.gl hgT) hmT hbT rfl hn hd) pa_nil) hs) (by decide) (by decide) hs hpl, fun σ H F Q R hp q => ?_⟩
  refine a2 σ H F _ R hp fun v H1 fp s1 r1 _ => ?_
  refine ⟨v, .ty U, _, .type U, z, rfl, .ty U, r1.tyx hob, kit_ty (by rw [← hz]; exact kitB_ok _ hob hk), ?_⟩
  exact q _ H1 [] s1 (.bl z) KdOk.nil

/-! comprehensions without a test -/
theorem lcx0 {t u : Type} [Enc t] [Enc u] {xs : List t} {f : t → u} {pI pF pL : Prop} {pe : t → Prop} {elt tg iter : Expr} {scope : Scope} {own : List (Str × Nat)} {is : List Nat} {T : Gam → t → Gam} {k : Kd} (C : Cxf X N sc) (hk : k ≠ .any)
    (hG : G.length = N.length) (hI : IX X G tg iter pI xs) (ok : BlkOk N sc scope own) (hno : notOwn G (own.map (·.2)) = true) (his : ∀ i ∈ is, i ∈ own.map (·.2))
    (hT : ∀ (s : Shared) (H : Hp) (D : Addr) (cl : List (Str × Addr)) (fp : List Addr), TGT (X.blk s H scope (compEnvC scope cl D X.env) fp) N.length tg is T)
    (he : ∀ (s : Shared) (H : Hp) (D : Addr) (cl : List (Str × Addr)) (fp : List Addr) (x : t), EX (X.blk s H scope (compEnvC scope cl D X.env) fp) (T (wipeG G (own.map (·.2))) x) elt (pe x) (f x) k)
    (c1 : CmbA xs (fun _ => true) (fun _ => True) pe pF) (c2 : Cmb pI pF pL) : LCX X N sc G elt tg iter [] scope own (pL ∧ LenOk xs.length) (xs.map f) k := by
  have h := lcx (bb := fun _ => true) C hk hG hI ok hno his hT (fun s H D cl fp x => tsx_nil) he c1 c2
  have e : xs.filter (fun _ => true) = xs := List.filter_eq_self.mpr fun _ _ => rfl
  rw [e] at h
  exact h
/-- all items at once -/
inductive CmbE {t : Type} (xs : List t) : (t → Prop) → Prop → Prop
  | t : CmbE xs (fun _ => True) True
  | e (pe : t → Prop) : CmbE xs pe (∀ x ∈ xs, pe x)
theorem CmbE.at' {t : Type} {xs : List t} {pe : t → Prop} {p : Prop} (c : CmbE xs pe p) (h : p) : ∀ x ∈ xs, pe x := by
  cases c
  · exact fun _ _ => trivial
  · exact h
theorem lcx1 {t u : Type} [Enc t] [Enc u] {xs : List t} {f : t → u} {pI pF pL : Prop} {pe : t → Prop} {elt tg iter : Expr} {scope : Scope} {own : List (Str × Nat)} {is : List Nat} {T : Gam → t → Gam} {k : Kd} (C : Cxf X N sc) (hk : k ≠ .any)
    (hG : G.length = N.length) (hI : IX X G tg iter pI xs) (ok : BlkOk N sc scope own) (hno : notOwn G (own.map (·.2)) = true) (his : ∀ i ∈ is, i ∈ own.map (·.2))
    (hT : ∀ (s : Shared) (H : Hp) (D : Addr) (cl : List (Str × Addr)) (fp : List Addr), TGT (X.blk s H scope (compEnvC scope cl D X.env) fp) N.length tg is T)
    (he : ∀ (s : Shared) (H : Hp) (D : Addr) (cl : List (Str × Addr)) (fp : List Addr) (x : t), EX (X.blk s H scope (compEnvC scope cl D X.env) fp) (T (wipeG G (own.map (·.2))) x) elt (pe x) (f x) k)
    (c1 : CmbE xs pe pF) (c2 : Cmb pI pF pL) (c3 : Cmb pL (LenOk xs.length) p) : LCX X N sc G elt tg iter [] scope own p (xs.map f) k := by
  obtain ⟨wi, g, tt, te, h1, h2, h3, h4, h5, h6⟩ := (lcx0 (pF := ∀ x ∈ xs, (fun _ => true) x = true → pe x) C hk hG hI ok hno his hT he (.e pe) (.b _ _)).ex
  exact ⟨wi, g, tt, te, h1, h2, h3, h4, h5, fun σ H F Q R hp k => h6 σ H F Q R ⟨⟨(c2.out (c3.out hp).1).1, fun x hx _ => c1.at' (c2.out (c3.out hp).1).2 x hx⟩, (c3.out hp).2⟩ k⟩
theorem lcx2 {t u : Type} [Enc t] [Enc u] {xs : List t} {f : t → u} {bb : t → Bool} {pI pF pL : Prop} {pt pe : t → Prop} {elt tg iter : Expr} {ifs : List Expr} {scope : Scope} {own : List (Str × Nat)} {is : List Nat} {T : Gam → t → Gam} {k : Kd} (C : Cxf X N sc) (hk : k ≠ .any)
    (hG : G.length = N.length) (hI : IX X G tg iter pI xs) (ok : BlkOk N sc scope own) (hno : notOwn G (own.map (·.2)) = true) (his : ∀ i ∈ is, i ∈ own.map (·.2))
    (hT : ∀ (s : Shared) (H : Hp) (D : Addr) (cl : List (Str × Addr)) (fp : List Addr), TGT (X.blk s H scope (compEnvC scope cl D X.env) fp) N.length tg is T)
    (ht : ∀ (s : Shared) (H : Hp) (D : Addr) (cl : List (Str × Addr)) (fp : List Addr) (x : t), TsX (X.blk s H scope (compEnvC scope cl D X.env) fp) (T (wipeG G (own.map (·.2))) x) ifs (pt x) (bb x))
    (he : ∀ (s : Shared) (H : Hp) (D : Addr) (cl : List (Str × Addr)) (fp : List Addr) (x : t), EX (X.blk s H scope (compEnvC scope cl D X.env) fp) (T (wipeG G (own.map (·.2))) x) elt (pe x) (f x) k)
    (c1 : CmbA xs bb pt pe pF) (c2 : Cmb pI pF pL) (c3 : Cmb pL (LenOk xs.length) p) : LCX X N sc G elt tg iter ifs scope own p ((xs.filter bb).map f) k := by
  obtain ⟨wi, g, tt, te, h1, h2, h3, h4, h5, h6⟩ := (lcx C hk hG hI ok hno his hT ht he c1 c2).ex
  exact ⟨wi, g, tt, te, h1, h2, h3, h4, h5, fun σ H F Q R hp k => h6 σ H F Q R (c3.out hp) k⟩

/-! chains -/
section
variable {x y z : Int} {kx ky kz : Kd} {pc : Prop}
theorem cm_lele (ha : EX X G a pa x kx) (hb : EX X G b pb y ky) (hc : EX X G c pc z kz) {p1 : Prop} (c1 : Cmb pa pb p1) (c2 : CmbIf (decide (x ≤ y)) p1 pc p) (hm : lastMarks [.LtE, .LtE] [b, c] = false := by rfl) : CMP X G (.Compare a [.LtE, .LtE] [b, c] pos) p (decide (x ≤ y) && decide (y ≤ z)) := cmChain (g := fun i j => decide (i ≤ j)) (g' := fun i j => decide (i ≤ j)) op_le op_le ha hb hc c1 c2 hm
theorem cm_lelt (ha : EX X G a pa x kx) (hb : EX X G b pb y ky) (hc : EX X G c pc z kz) {p1 : Prop} (c1 : Cmb pa pb p1) (c2 : CmbIf (decide (x ≤ y)) p1 pc p) (hm : lastMarks [.LtE, .Lt] [b, c] = false := by rfl) : CMP X G (.Compare a [.LtE, .Lt] [b, c] pos) p (decide (x ≤ y) && decide (y < z)) := cmChain (g := fun i j => decide (i ≤ j)) (g' := fun i j => decide (i < j)) op_le op_lt ha hb hc c1 c2 hm
theorem cm_ltle (ha : EX X G a pa x kx) (hb : EX X G b pb y ky) (hc : EX X G c pc z kz) {p1 : Prop} (c1 : Cmb pa pb p1) (c2 : CmbIf (decide (x < y)) p1 pc p) (hm : lastMarks [.Lt, .LtE] [b, c] = false := by rfl) : CMP X G (.Compare a [.Lt, .LtE] [b, c] pos) p (decide (x < y) && decide (y ≤ z)) := cmChain (g := fun i j => decide (i < j)) (g' := fun i j => decide (i ≤ j)) op_lt op_le ha hb hc c1 c2 hm
end

/-! in -/
theorem inV_int {x : Int} : ∀ xs : List Int, inV (.int x) (xs.map V.int) = xs.contains x
  | [] => rfl
  | y :: ys => by
    show (eqV (.int y) (.int x) || inV (.int x) (ys.map V.int)) = _
    rw [inV_int ys, List.contains_cons]
    congr 1
    show (y == x) = (x == y)
    exact Bool.beq_comm
theorem inV_str {x : Str} : ∀ xs : List Str, inV (.str x) (xs.map V.str) = xs.contains x
  | [] => rfl
  | y :: ys => by
    show (eqV (.str y) (.str x) || inV (.str x) (ys.map V.str)) = _
    rw [inV_str ys, List.contains_cons]
    congr 1
    show (y == x) = (x == y)
    exact Bool.beq_comm
theorem Reps.strs {K : PySem.W.Frag} {H : Hp} : ∀ {fp : List Addr} {vs : List V} {ns : List Str}, Reps K H fp vs (ns.map D.str) → vs = ns.map V.str ∧ fp = []
  | _, _, [], r => by cases r; exact ⟨rfl, rfl⟩
  | _, _, n :: ns, r => by
    cases r with
    | cons h r =>
      obtain ⟨e1, e2⟩ := h.str_inv
      obtain ⟨e3, e4⟩ := r.strs
      subst e1 e2 e3 e4
      exact ⟨rfl, rfl⟩
theorem cm_inI {x : Int} {xs : List Int} {kx ky : Kd} (ha : EX X G a pa x kx) (hb : EX X G b pb xs ky) (c1 : Cmb pa pb p) (hm : behindInMarks .In b = false := by rfl) : CMP X G (.Compare a [.In] [b] pos) p (xs.contains x) :=
  cm2 (pr := True) op_in_seq ha hb (fun _ H fv fw v w Q rv rw' k => by
    obtain ⟨rfl, _⟩ := rv.int_inv
    obtain ⟨l, vs, f', rfl, hq, rs, _⟩ := rw'.lst_inv
    obtain ⟨rfl, _⟩ := Reps.ints rs
    refine ⟨l, _, rfl, .inl hq, rfl, by rw [List.all_map]; exact List.all_eq_true.mpr fun _ _ => rfl, ?_⟩
    rw [inV_int]; exact k) c1 (.l p) hm
theorem cm_ninI {x : Int} {xs : List Int} {kx ky : Kd} (ha : EX X G a pa x kx) (hb : EX X G b pb xs ky) (c1 : Cmb pa pb p) (hm : behindInMarks .NotIn b = false := by rfl) : CMP X G (.Compare a [.NotIn] [b] pos) p (!xs.contains x) :=
  cm2 (pr := True) op_notIn_seq ha hb (fun _ H fv fw v w Q rv rw' k => by
    obtain ⟨rfl, _⟩ := rv.int_inv
    obtain ⟨l, vs, f', rfl, hq, rs, _⟩ := rw'.lst_inv
    obtain ⟨rfl, _⟩ := Reps.ints rs
    refine ⟨l, _, rfl, .inl hq, rfl, by rw [List.all_map]; exact List.all_eq_true.mpr fun _ _ => rfl, ?_⟩
    rw [inV_int]; exact k) c1 (.l p) hm
theorem cm_inS {x : Str} {xs : List Str} {kx ky : Kd} (ha : EX X G a pa x kx) (hb : EX X G b pb xs ky) (c1 : Cmb pa pb p) (hm : behindInMarks .In b = false := by rfl) : CMP X G (.Compare a [.In] [b] pos) p (xs.contains x) :=
  cm2 (pr := True) op_in_seq ha hb (fun _ H fv fw v w Q rv rw' k => by
    obtain ⟨rfl, _⟩ := rv.str_inv
    obtain ⟨l, vs, f', rfl, hq, rs, _⟩ := rw'.lst_inv
    obtain ⟨rfl, _⟩ := Reps.strs rs
    refine ⟨l, _, rfl, .inl hq, rfl, by rw [List.all_map]; exact List.all_eq_true.mpr fun _ _ => rfl, ?_⟩
    rw [inV_str]; exact k) c1 (.l p) hm
end
end BW

set_option Elab.async false
set_option linter.all false
set_option maxRecDepth 100000
set_option maxHeartbeats 4000000
/-! Targets of names in short; unpacking lists. -/
namespace BW
open PySem L2
theorem notOwn_set {G : Gam} {i : Nat} {d : D} {js : List Nat} (h : notOwn G js = true) : notOwn (G.set i (.val false d)) js = true := List.all_eq_true.mpr fun j hj => by
  by_cases e : j = i
  · subst e
    cases q : (G.set j (.val false d))[j]? with
    | none => rfl
    | some s =>
      have := set_eq q
      subst this
      rfl
  · rw [List.getElem?_set_ne (Ne.symm e)]
    exact List.all_eq_true.mp h j hj
theorem notOwn_app {G : Gam} {is js : List Nat} (h : notOwn G (is ++ js) = true) : notOwn G js = true := by
  unfold notOwn at h ⊢
  rw [List.all_append, Bool.and_eq_true] at h
  exact h.2
section
variable {X : Cx} {G : Gam} {N : List Str} {sc : Scope} {e a b c : Expr} {es : List Expr} {p pa pb pr q pI pF : Prop} {pos ppos : Pos}
variable {W : WX} {S B R : Type} [Ret R] {g : S → Gam} {gb : B → Gam} {rest : List Stmt}
/-- a name, then the others -/
theorem tgs_nm {t u : Type} [Enc u] {js : List Nat} {y : Str} {ds : t → List D} {T2 : Gam → t → Gam} (f : t → u) (C : Cxf X N sc) (i : Nat) (V : Vs X N sc i y) (h2 : TGQ X N.length es js ds T2)
    (hs : (assignEach (.Name y pos :: es) X.env).map (·.2) = assign (.Name y pos) X.env :: (assignEach es X.env).map (·.2) := by rfl) : TGQ X N.length (.Name y pos :: es) (i :: js) (fun x => enc (f x) :: ds x) (fun G x => T2 (G.set i (.val false (enc (f x)))) x) :=
  tgs_cons (is := [i]) (tg_name C i V) h2 (fun G x h => notOwn_set (notOwn_app h)) hs
def sx_tgtLT (X : Cx) (n m : Nat) (tg : Expr) (is : List Nat) {t : Type} [Enc t] (T : Gam → List t → Gam) : Prop :=
  ∃ g, PG X tg g ∧ ∀ (G : Gam) (x : List t) v σ H F fp (Q : St → Hp → Prop), x.length = m → G.length = n → Rel X.K G σ H F → Rep X.K H fp v (enc x) → (∀ a ∈ fp, ¬ InO G F a) →
      (∀ σ' F', (T G x).length = n → Rel X.K (T G x) σ' H F' → Frm (InO G F) H (InO (T G x) F') H → (notOwn G is = true → ∀ a, InO G F a → InO (T G x) F' a) → (∀ a, InS (T G x) F' a → InS G F a ∨ a ∈ fp) → (∀ a, InO (T G x) F' a → InO G F a) → (∀ j, j ∉ is → σ'[j]? = σ[j]?) → σ'.length = σ.length → Q σ' H) → g v σ H Q
/-- a, b = xs, a list -/
theorem sx_tgtL {t : Type} [Enc t] {x : List t} {tg : Expr} {n m : Nat} {is : List Nat} {T : Gam → List t → Gam} {pR : List t → Prop} {oR : List t → Out S B R} {p1 : Prop} (hT : sx_tgtLT X n m tg is T) (hn : G.length = n) (he : EX X G e pa x .shr) (hR : ∀ y : List t, SX X W (T G y) rest (pR y) g gb (oR y)) (c1 : Cmb pa (x.length = m) p1) (c : Cmb p1 (lt x pR) p)
    (hs : swapsWithSole [tg] e pos.line X.env = pure false := by rfl) (hw : swappedStores [tg] e X.env = pure none := by rfl) (hh : (assignEach [tg] X.env).map (·.2) = [assign tg X.env] := by rfl) : SX X W G (.Assign [tg] e pos :: rest) p g gb (lt x oR) := by
  obtain ⟨te, h1, h2⟩ := he
  obtain ⟨ts, r1, r2⟩ := hR x
  obtain ⟨gg, g1, g2⟩ := hT
  refine ⟨_, pss_cons (ps_asg h1 g1 hs hw hh) r1, fun σ H F D Rl hp k => ?_⟩
  obtain ⟨hp1, hpR⟩ := c.out hp
  obtain ⟨hpa, hm⟩ := c1.out hp1
  refine h2 σ H F _ Rl hpa fun v H1 fp s rv kd => ?_
  have hk := Rl.shrN kd
  refine g2 G x v σ H1 F fp _ hm hn (Rl.same s) rv hk fun σ' F' l' R' f' m' i' o' j' e' => ?_
  exact r2 _ _ _ D R' hpR (OutOk.of (show OutOk X W G F H g gb D (oR x) from k) ((Rl.frm s).trans f'))
theorem sx_tgtLV {t : Type} [Enc t] {x : List t} {tg : Expr} {n m : Nat} {is : List Nat} {T : Gam → List t → Gam} {pR : List t → Prop} {rR : List t → R} {p1 : Prop} (hT : sx_tgtLT X n m tg is T) (hn : G.length = n) (he : EX X G e pa x .shr) (hR : ∀ y : List t, SX X W (T G y) rest (pR y) g gb (.ret (rR y) : Out S B R)) (c1 : Cmb pa (x.length = m) p1) (c : Cmb p1 (lt x pR) p)
    (hs : swapsWithSole [tg] e pos.line X.env = pure false := by rfl) (hw : swappedStores [tg] e X.env = pure none := by rfl) (hh : (assignEach [tg] X.env).map (·.2) = [assign tg X.env] := by rfl) : SX X W G (.Assign [tg] e pos :: rest) p g gb (.ret (lt x rR) : Out S B R) :=
  sx_tgtL (oR := fun x => (.ret (rR x) : Out S B R)) hT hn he hR c1 c hs hw hh
theorem sx_tgtLF {t : Type} [Enc t] {x : List t} {tg : Expr} {n m : Nat} {is : List Nat} {T : Gam → List t → Gam} {pR : List t → Prop} {rR : List t → S} {p1 : Prop} (hT : sx_tgtLT X n m tg is T) (hn : G.length = n) (he : EX X G e pa x .shr) (hR : ∀ y : List t, SX X W (T G y) rest (pR y) g gb (.fall (rR y) : Out S B R)) (c1 : Cmb pa (x.length = m) p1) (c : Cmb p1 (lt x pR) p)
    (hs : swapsWithSole [tg] e pos.line X.env = pure false := by rfl) (hw : swappedStores [tg] e X.env = pure none := by rfl) (hh : (assignEach [tg] X.env).map (·.2) = [assign tg X.env] := by rfl) : SX X W G (.Assign [tg] e pos :: rest) p g gb (.fall (lt x rR) : Out S B R) :=
  sx_tgtL (oR := fun x => (.fall (rR x) : Out S B R)) hT hn he hR c1 c hs hw hh
theorem NX.bind {T S B R : Type} [Ret R] {o : Out T B R} {f : T → Out S B R} (h : Fin2 o) (hf : ∀ s, NX (f s)) : NX (o.bind f) := by
  cases o with
  | fall s => exact hf s
  | ret r => exact .ret r
  | brk b => exact h.h.elim
  | cnt b => exact h.h.elim
  | exc c => exact h.h.elim
end
end BW

set_option Elab.async false
set_option linter.all false
set_option maxRecDepth 100000
set_option maxHeartbeats 4000000
/-! Further rules. -/
namespace BW
open PySem L2
abbrev FnP (K : PySem.W.Frag) (x : Str) (st : Stmt) (f : Addr) (fd : FuncData) : Prop := FunD K x x (defArgs st) (defBody st) (defScope st) [] [] f fd
structure ExG (K : PySem.W.Frag) (mg : Str → Option Value) (x : Str) : Prop where
  ex : ∃ C : Addr, mg x = some (.ref C) ∧ PySem.W.excIn K C [.type "ValueError", .type "Exception", .type "BaseException", .type "object"] "ValueError.__new__" = true ∧ PySem.W.keepIn K (.ref C) = true ∧
    PySem.W.subIn K (.ref C) (.type "BaseException") = some true ∧ PySem.W.typeIn K (.ref C) = some (.type "type")
theorem ExG.x {X : L2.Cx} {x : Str} (h : ExG X.K X.mg x) : ExF X x := ⟨h.ex⟩
section
variable {X : Cx} {G : Gam} {N : List Str} {sc : Scope} {e a b c : Expr} {es : List Expr} {p pa pb pr q pI pF : Prop} {pos ppos : Pos}
variable {W : WX} {S B R : Type} [Ret R] {g : S → Gam} {gb : B → Gam} {rest : List Stmt}
instance {i j : Int} : Decidable (PowOk i j) := by unfold PowOk; infer_instance
instance {i j : Int} : Decidable (DivOk i j) := by unfold DivOk; infer_instance
instance {i j : Int} : Decidable (CPow i j) := by unfold CPow; infer_instance
instance {i j : Int} : Decidable (MulOk i j) := by unfold MulOk; infer_instance
section
variable {x y : Int} {kx ky : Kd}
theorem EX.cut {t : Type} [Enc t] {z : t} {k : Kd} (h : EX X G e (p ∧ q) z k) (hq : q) : EX X G e p z k := by
  obtain ⟨te, h1, h2⟩ := h
  exact ⟨te, h1, fun σ H F Q R hp k => h2 σ H F Q R ⟨hp, hq⟩ k⟩
theorem ex_modK (ha : EX X G a pa x kx) (hb : EX X G b pb y ky) (c1 : Cmb pa pb p) (h : 0 < y) : EX X G (.BinOp a .Mod b pos) p (x % y) .frs := (ex_mod ha hb c1 (.b _ _)).cut h
theorem ex_divK (ha : EX X G a pa x kx) (hb : EX X G b pb y ky) (c1 : Cmb pa pb p) (h : DivOk 0 y) : EX X G (.BinOp a .FloorDiv b pos) p (x / y) .frs := (ex_div ha hb c1 (.b _ _)).cut h
theorem ex_powK (ha : EX X G a pa x kx) (hb : EX X G b pb y ky) (c1 : Cmb pa pb p) (h : PowOk x y) : EX X G (.BinOp a .Pow b pos) p (x ^ y.toNat) .frs := (ex_pow ha hb c1 (.b _ _)).cut h
theorem ex_shlK (ha : EX X G a pa x kx) (hb : EX X G b pb y ky) (c1 : Cmb pa pb p) (h : CPow x y) : EX X G (.BinOp a .LShift b pos) p (x * 2 ^ y.toNat) .frs := (ex_shl ha hb c1 (.b _ _)).cut h
theorem ex_shrK (ha : EX X G a pa x kx) (hb : EX X G b pb y ky) (c1 : Cmb pa pb p) (h : 0 ≤ y) : EX X G (.BinOp a .RShift b pos) p (x / 2 ^ y.toNat) .frs := (ex_shr ha hb c1 (.b _ _)).cut h
end
theorem ex_globI {y : Str} {i : Int} (C : Cxf X N sc) (hg : sc.names.lookup y = some .globalImplicit) (hm : ∃ t, X.mg y = some (.int i t)) (hd : (y == ("__debug__" : Str)) = false := by decide) : EX X G (.Name y pos) True i .frs := by
  obtain ⟨t, hm⟩ := hm
  exact ex_glob (v := .int i) (C.gl hg) hm ⟨t, rfl⟩ (fun H => .int i) hd
theorem sx_wk {G' : Gam} {ss : List Stmt} {o : Out S B R} (w : Wk G G') (h : SX X W G' ss p g gb o) : SX X W G ss p g gb o := by
  obtain ⟨ts, h1, h2⟩ := h
  exact ⟨ts, h1, fun σ H F D Rl hp k => h2 σ H F D (w.rel Rl) hp (k.of w.frm)⟩
theorem sx_ifF {x y : S} {sa sb : List Stmt} {bb : Bool} {pc : Prop} (hc : TX X G c pc bb) (ha : SX X W G sa pa g gb (.fall x : Out S B R)) (hb : SX X W G sb pb g gb (.fall y : Out S B R)) (cc : Cmb3 bb pc pa pb p) : SX X W G [.If c sa sb pos] p g gb (.fall (if bb = true then x else y) : Out S B R) := by
  have h := (s1_if (pos := pos) hc ha hb cc).last
  cases bb <;> exact h
theorem sx_ifO {oa ob : Out S B R} {sa sb : List Stmt} {bb : Bool} {pc : Prop} (hc : TX X G c pc bb) (ha : SX X W G sa pa g gb oa) (hb : SX X W G sb pb g gb ob) (cc : Cmb3 bb pc pa pb p) : SX X W G [.If c sa sb pos] p g gb (if bb = true then oa else ob) :=
  (s1_if (pos := pos) hc ha hb cc).last
/-- a loop that asks nothing -/
theorem s1_forT {L t : Type} [Enc t] {gL : L → Gam} {xs : List t} {tg iter : Expr} {body : List Stmt} {n : Nat} {is : List Nat} {T : Gam → t → Gam} {fB : L → t → L} (C : Cxf X N sc) (own : PassesOwn (model X.prog X.w) X.A X.env X.xe)
    (hI : IX X G tg iter p xs) (hT : TGT X n tg is T) (hn : ∀ s, (gL s).length = n) (s0 : L) (w : Wk G (gL s0)) (hB : ∀ (s : L) (x : t), SX X W (T (gL s) x) body True gL gL (.fall (fB s x) : Out L L R))
    (hs : ∀ x, foldedSetIterable iter X.env x = pure x := by intro _; rfl) : S1 X W G (.For tg iter body [] pos) p gL gb (.fall (xs.foldl fB s0) : Out L B R) := by
  have h := s1_for (pos := pos) (gb := gb) (B := B) (pB := fun _ _ => True) (p := p ∧ foldP (fun _ _ => True) fB s0 xs) C own hI hT hn s0 w hB (.b _ _) hs
  obtain ⟨ts, h1, h2⟩ := h
  exact ⟨ts, h1, fun σ H F D Rl hp k => h2 σ H F D Rl ⟨hp, foldP_inv (fun _ => True) xs s0 trivial fun _ _ _ _ => ⟨trivial, trivial⟩⟩ k⟩
/-- neither handed back nor raised -/
inductive NR {S B R : Type} : Out S B R → Prop
  | fall (s : S) : NR (.fall s)
  | brk (b : B) : NR (.brk b)
  | cnt (b : B) : NR (.cnt b)
  | ite {b : Bool} {x y : Out S B R} : NR x → NR y → NR (if b = true then x else y)
def IsFall' {S B R : Type} : Out S B R → Prop
  | .fall _ => True
  | _ => False
structure IsFall {S B R : Type} (o : Out S B R) : Prop where
  h : IsFall' o
def fallD {S B R : Type} (o : Out S B R) (d : S) : S := match o with
  | .fall s => s
  | _ => d
theorem NR.out {S B R : Type} {o : Out S B R} (h : NR o) : (∀ r, o ≠ .ret r) ∧ ∀ c, o ≠ .exc c := by
  induction h with
  | fall s => exact ⟨fun r z => (by cases z), fun c z => (by cases z)⟩
  | brk b => exact ⟨fun r z => (by cases z), fun c z => (by cases z)⟩
  | cnt b => exact ⟨fun r z => (by cases z), fun c z => (by cases z)⟩
  | ite h1 h2 i1 i2 => split <;> assumption
theorem NR.bindN {T S B R : Type} {o : Out T B R} {f : T → Out S B R} (h : NR o) (hf : ∀ s, NR (f s)) : NR (o.bind f) := by
  obtain ⟨h1, h2⟩ := h.out
  cases o with
  | fall s => exact hf s
  | brk b => exact .brk b
  | cnt b => exact .cnt b
  | ret r => exact absurd rfl (h1 r)
  | exc c => exact absurd rfl (h2 c)
theorem NX.bindN {T S B R : Type} [Ret R] {o : Out T B R} {f : T → Out S B R} (h : NX o) (hf : ∀ s, NX (f s)) : NX (o.bind f) := by
  have h1 := h.out
  cases o with
  | fall s => exact hf s
  | brk b => exact .brk b
  | cnt b => exact .cnt b
  | ret r => exact .ret r
  | exc c => exact absurd rfl (h1 c)
theorem nx_fin {T R : Type} [Ret R] {o : Out T Empty R} (h : NX o) : Fin2 o := by
  have h1 := h.out
  cases o with
  | fall s => exact ⟨trivial⟩
  | brk b => exact nomatch b
  | cnt b => exact nomatch b
  | ret r => exact ⟨trivial⟩
  | exc c => exact absurd rfl (h1 c)
theorem stepO_run {L B R : Type} {o : Out L L R} {k : L → Out L B R} (h : NR o) (hk : ∀ s, IsFall (k s)) : IsFall (stepO o k) := by
  obtain ⟨h1, h2⟩ := h.out
  cases o with
  | fall s => exact hk s
  | cnt s => exact hk s
  | brk s => exact ⟨trivial⟩
  | ret r => exact absurd rfl (h1 r)
  | exc c => exact absurd rfl (h2 c)
theorem loopL_run {L t B R : Type} {f : L → t → Out L L R} (h : ∀ s x, NR (f s x)) : ∀ (xs : List t) (s : L), IsFall (loopL f s xs : Out L B R)
  | [], _ => ⟨trivial⟩
  | x :: xs, s => stepO_run (h s x) fun s' => loopL_run h xs s'
theorem whileL_run {L B R : Type} {b : L → Bool} {f : L → Out L L R} (h : ∀ s, NR (f s)) : ∀ (n : Nat) (s : L), IsFall (whileL b f n s : Out L B R)
  | 0, _ => ⟨trivial⟩
  | n + 1, s => by
    show IsFall (if b s = true then stepO (f s) fun s' => whileL b f n s' else .fall s)
    split
    · exact stepO_run (h s) fun s' => whileL_run h n s'
    · exact ⟨trivial⟩
theorem s1_fall {st : Stmt} {o : Out S B R} (h : S1 X W G st p g gb o) (d : S) (hf : IsFall o) : S1 X W G st p g gb (.fall (fallD o d) : Out S B R) := by
  cases o with
  | fall s => exact h
  | brk b => exact hf.h.elim
  | cnt b => exact hf.h.elim
  | ret r => exact hf.h.elim
  | exc c => exact hf.h.elim
theorem S1.bindVT {T : Type} {g1 : T → Gam} {st : Stmt} {o1 : Out T B R} {fR : T → R} (h1 : S1 X W G st p g1 gb o1) (d : R) (hf : Fin2 o1) (hR : ∀ s : T, SX X W (g1 s) rest True g gb (.ret (fR s) : Out S B R)) : SX X W G (st :: rest) p g gb (.ret (valD o1 d fR) : Out S B R) := by
  have h := S1.bindV (p := p ∧ o1.Then fun _ => True) h1 d hf hR (.b _ _)
  obtain ⟨ts, a1, a2⟩ := h
  exact ⟨ts, a1, fun σ H F D Rl hp k => a2 σ H F D Rl ⟨hp, by cases o1 <;> trivial⟩ k⟩
theorem S1.bindT {T : Type} {g1 : T → Gam} {st : Stmt} {o1 : Out T B R} {oR : T → Out S B R} (h1 : S1 X W G st p g1 gb o1) (hR : ∀ s : T, SX X W (g1 s) rest True g gb (oR s)) : SX X W G (st :: rest) p g gb (o1.bind oR) := by
  have h := S1.bind (p := p ∧ o1.Then fun _ => True) h1 hR (.b _ _)
  obtain ⟨ts, a1, a2⟩ := h
  exact ⟨ts, a1, fun σ H F D Rl hp k => a2 σ H F D Rl ⟨hp, by cases o1 <;> trivial⟩ k⟩
/-- reversed(xs) -/
theorem ix_rev {tg : Expr} {t : Type} [Enc t] {xs : List t} (C : Cxf X N sc) (hg : sc.names.lookup ("reversed" : Str) = some .globalImplicit) (hm : X.mg "reversed" = none) (ha : EX X G a p xs .shr) (hs : starEach [a] X.env = [(false, eval a X.env)] := by rfl) :
    IX X G tg (.Call (.Name "reversed" ppos) [a] [] pos) p xs.reverse := by
  obtain ⟨ta, a1, a2⟩ := ax1 (p := p) ha hs
  refine ⟨_, pi_reversed (C.gl hg) hm a1 hs, fun σ H F R Rl hp k => ?_⟩
  refine a2 σ H F _ Rl hp fun vs H1 fp s1 r1 k1 => ?_
  obtain ⟨v, rfl, r2⟩ := r1.one
  obtain ⟨l, ws, fp', rfl, h1, rs, e⟩ := r2.lst_inv'
  have hl0 := rs.length
  rw [List.length_map] at hl0
  refine ⟨l, ws, rfl, SqL.of h1, k _ H1 fp (fun H => Rep X.K H fp (.ref l) (enc xs)) s1 k1 (fun a ha => r2.there ha) pst_rep r2 ?_⟩
  rw [List.length_reverse]
  have at' : ∀ {H : Hp}, Rep X.K H fp (.ref l) (enc xs) → ∃ (vs' : List V) (f' : List Addr), SqL X.K H l vs' ∧ Reps X.K H f' vs' (xs.map enc) ∧ fp = l :: f' ∧ vs'.length = xs.length := fun {H} g => by
    obtain ⟨l', vs', f', e1, h', rs', ef⟩ := g.lst_inv'
    injection e1 with e1
    subst e1
    have hl := rs'.length
    rw [List.length_map] at hl
    exact ⟨vs', f', SqL.of h', rs', ef, hl⟩
  refine ⟨fun i H hi g => ?_, fun H g => ?_, fun i H x H' hi g y => ?_⟩
  · obtain ⟨vs', f', h', rs', ef, hl⟩ := at' g
    have := (walk_rev (K := X.K) (a := l) (xs := vs')).goes i H (by omega) h'
    rw [hl] at this; rw [hl0]; exact this
  · obtain ⟨vs', f', h', rs', ef, hl⟩ := at' g
    have := (walk_rev (K := X.K) (a := l) (xs := vs')).stops H h'
    rw [hl] at this; rw [hl0]; exact this
  · obtain ⟨vs', f', h', rs', ef, hl⟩ := at' g
    rw [hl0, ← hl] at y
    obtain ⟨e0, hx⟩ := (walk_rev (K := X.K) (a := l) (xs := vs')).yields i H x H' (by omega) h' y
    subst e0
    have hj : xs.length - 1 - i < xs.length := by omega
    obtain ⟨u, fu, e6, ru, su, _⟩ := rs'.get (i := xs.length - 1 - i) (d := enc (xs[xs.length - 1 - i]'hj)) (by simp [hj])
    rw [hl] at hx
    rw [hx] at e6
    have e7 := Option.some.inj e6
    subst e7
    refine ⟨Same.refl _, fu, xs[xs.length - 1 - i]'hj, ?_, ru, fun a ha => by rw [ef]; exact List.mem_cons_of_mem _ (su a ha)⟩
    rw [List.getElem?_reverse hi]
    simp [hj]
end
end BW

set_option Elab.async false
set_option linter.all false
set_option maxRecDepth 100000
set_option maxHeartbeats 4000000
/-! The law's end. -/
namespace BW
open PySem L2
theorem fn_cx0 {P : Program} {w : World} {K : PySem.W.Frag} {mg : Str → Option Value} {base : Heap} {k : Nat} {f : Addr} {fd : FuncData} {ps : List Str} {sp : Sp} (F : FnOk P w K mg base (L2.CX P w) k f fd ps sp) (h : ∀ vs H Q E, sp vs H Q E → sp vs H Q fun _ _ _ => False) : FnOk P w K mg base CX0 k f fd ps sp :=
  ⟨F.len, fun A outer s H args us vs Q E hr he hb hv hs => codeAny_mono (F.run A outer s H args us vs Q (fun _ _ _ => False) hr he hb hv (h _ _ _ _ hs)) fun r s' hq => by
    cases r with
    | error e =>
      obtain ⟨_, _, _, _, _, _, _, _, _, _, _, _, z⟩ := hq
      exact z.elim
    | ok fl => cases fl <;> exact hq⟩
theorem spV_cx0 {K : PySem.W.Frag} {mg : Str → Option Value} {A R : Type} [Enc R] {encs : A → List D} {pre : A → Prop} {val : A → R} : ∀ vs H Q E, spV K mg encs pre val vs H Q E → spV K mg encs pre val vs H Q fun _ _ _ => False := fun vs H Q E ⟨a, fp, r, hp, k⟩ => ⟨a, fp, r, hp, k⟩
theorem sp_law {K : PySem.W.Frag} {mg : Str → Option Value} {p : Scr → Prop} {v : Scr → Bool} (h : ∀ ns : List Int, ns.length ≤ 63 → p ⟨ns⟩ ∧ v ⟨ns⟩ = true) :
    ∀ (H : Hp) (a : Addr) (ns : List Int), ns.length ≤ 63 → Only H → SqL K H a (ns.map V.int) → spV K mg (fun a : Scr => [enc a]) p v [.ref a] H (fun v _ => v = .bl true) fun _ _ _ => False := fun H a ns hl hO hS => by
  obtain ⟨h1, h2⟩ := h ns hl
  have f : Fro K H a (ns.map V.int) := by
    rcases hS with (e | ⟨o, e⟩) | e
    · rcases hO a with z | ⟨o, xs, z⟩
      · rw [z] at e; cases e
      · rw [z] at e; cases e
    · exact .inl ⟨o, e⟩
    · exact .inr fun H' => .inr e
  have r := Reps.cons (Rep.scr f) (Reps.nil (K := K) (H := H))
  refine ⟨⟨ns⟩, _, r, h1, fun v' H' fp' _ r' _ _ => ?_⟩
  rw [h2] at r'
  exact r'.bl_inv.1
theorem SX.nf {X : Cx} {W : WX} {G : Gam} {ss : List Stmt} {p : Prop} {S B R : Type} [Ret R] {g : S → Gam} {gb : B → Gam} {o : Out S B R} (G' : Gam) (h : G' = G) (k : SX X W G' ss p g gb o) : SX X W G ss p g gb o := h ▸ k
end BW

set_option Elab.async false
set_option linter.all false
set_option maxRecDepth 100000
set_option maxHeartbeats 4000000
/-! More expressions: list(range(..)), any, all, zip, steps; a comprehension kept in a cell. -/
namespace BW
open PySem L2
section
variable {X : Cx} {G : Gam} {N : List Str} {sc : Scope} {e a b c : Expr} {es : List Expr} {p pa pb pr q : Prop} {pos ppos : Pos}
theorem sw_cell {elt : Expr} {gs : List Comprehension} {scope : Scope} {lpos py : Pos} {y : Str} {l : Nat} (C : Cxf X N sc) (hk : sc.kind = .function) (hy : sc.names.lookup y = some .cell) : swapsWith (.ListComp elt gs scope lpos) (some (.Name y py)) l X.env = pure false := by
  have ky : X.env.kindOf y = some .cell := by
    show X.env.scope.names.lookup y = _
    rw [C.hs]; exact hy
  have hb : X.env.blockKind = .function := by unfold Env.blockKind; rw [C.hs, hk]; rfl
  unfold swapsWith
  simp only [hb, ky]
  rfl
theorem rgV_eq (lo hi : Int) : rgV lo hi = (pyRange lo (hi - lo).toNat).map V.int := by
  unfold rgV pyRange
  rw [List.map_map]
  rfl
theorem ints_reps {K : PySem.W.Frag} {H : Hp} : ∀ xs : List Int, Reps K H [] (xs.map V.int) (xs.map enc)
  | [] => .nil
  | x :: xs => .cons (.int x) (ints_reps xs)
theorem ex_listRg2 {lo hi : Int} {ka kb : Kd} (C : Cxf X N sc) (hg : sc.names.lookup ("list" : Str) = some .globalImplicit) (hr : sc.names.lookup ("range" : Str) = some .globalImplicit) (hm : X.mg "list" = none) (hm2 : X.mg "range" = none)
    (ha : EX X G a pa lo ka) (hb : EX X G b pb hi kb) {p1 : Prop} (c1 : Cmb pa pb p1) (c2 : Cmb p1 (BW.RgOk lo ∧ BW.RgOk hi ∧ LenOk (hi - lo).toNat) p) {rpos rppos : Pos}
    (na : starEach [a, b] X.env = (false, eval a X.env) :: starEach [b] X.env := by rfl) (nb : starEach [b] X.env = (false, eval b X.env) :: starEach [] X.env := by rfl) (hp : (backTo rpos (starEach [b] X.env)).any (·.1) = false := by rfl)
    (nc : starEach [.Call (.Name "range" rppos) [a, b] [] rpos] X.env = (false, eval (.Call (.Name "range" rppos) [a, b] [] rpos) X.env) :: starEach [] X.env := by rfl) :
    EX X G (.Call (.Name "list" ppos) [.Call (.Name "range" rppos) [a, b] [] rpos] [] pos) p (pyRange lo (hi - lo).toNat) .frs := by
  obtain ⟨ta, a1, a2⟩ := ha
  obtain ⟨tb, b1, b2⟩ := hb
  refine ⟨_, pe_listRg C.calm (C.gl hg) hm (prg_2 (C.gl hr) hm2 a1 b1 na nb hp) nc, fun σ H F Q R hp k => ?_⟩
  obtain ⟨hp1, hr1, hr2, hl⟩ := c2.out hp
  obtain ⟨hpa, hpb⟩ := c1.out hp1
  refine a2 σ H F _ R hpa fun v H1 fp s1 r1 _ => ?_
  obtain ⟨rfl, _⟩ := r1.int_inv
  refine b2 σ H1 F _ (R.same s1) hpb fun w H2 fp2 s2 r2 _ => ?_
  obtain ⟨rfl, _⟩ := r2.int_inv
  refine ⟨lo, hi, rfl, rfl, ⟨hr1.1, hr1.2, hr2.1, hr2.2, ?_⟩, fun q hq => ?_⟩
  · unfold LenOk at hl
    rw [sizeLine_eq] at hl
    omega
  · have s3 := s1.trans s2
    rw [rgV_eq]
    refine k _ _ [q] (s3.trans (Same.upd hq)) (.lst upd_same (ints_reps _)) ⟨by simp, fun a ha => ?_⟩
    simp at ha
    rw [ha]
    exact s3.free hq
theorem ex_listRg1 {hi : Int} {kb : Kd} (C : Cxf X N sc) (hg : sc.names.lookup ("list" : Str) = some .globalImplicit) (hr : sc.names.lookup ("range" : Str) = some .globalImplicit) (hm : X.mg "list" = none) (hm2 : X.mg "range" = none)
    (hb : EX X G b pb hi kb) (c2 : Cmb pb (BW.RgOk hi ∧ LenOk hi.toNat) p) {rpos rppos : Pos} (nb : starEach [b] X.env = (false, eval b X.env) :: starEach [] X.env := by rfl)
    (nc : starEach [.Call (.Name "range" rppos) [b] [] rpos] X.env = (false, eval (.Call (.Name "range" rppos) [b] [] rpos) X.env) :: starEach [] X.env := by rfl) :
    EX X G (.Call (.Name "list" ppos) [.Call (.Name "range" rppos) [b] [] rpos] [] pos) p (pyRange 0 hi.toNat) .frs := by
  obtain ⟨tb, b1, b2⟩ := hb
  refine ⟨_, pe_listRg C.calm (C.gl hg) hm (prg_1 (C.gl hr) hm2 b1 nb) nc, fun σ H F Q R hp k => ?_⟩
  obtain ⟨hpb, hr2, hl⟩ := c2.out hp
  refine b2 σ H F _ R hpb fun w H2 fp2 s2 r2 _ => ?_
  obtain ⟨rfl, _⟩ := r2.int_inv
  refine ⟨hi, rfl, ⟨by decide, by decide, hr2.1, hr2.2, ?_⟩, fun q hq => ?_⟩
  · unfold LenOk at hl
    rw [sizeLine_eq] at hl
    omega
  · have e : rgV 0 hi = (pyRange 0 hi.toNat).map V.int := by rw [rgV_eq, Int.sub_zero]
    rw [e]
    refine k _ _ [q] (s2.trans (Same.upd hq)) (.lst upd_same (ints_reps _)) ⟨by simp, fun a ha => ?_⟩
    simp at ha
    rw [ha]
    exact s2.free hq
/-- what is owned, only read -/
theorem EX.wk {G' : Gam} {t : Type} [Enc t] {x : t} (w : Wk G G') (h : EX X G' e p x .frs) : EX X G e p x .frs := by
  obtain ⟨te, h1, h2⟩ := h
  exact ⟨te, h1, fun σ H F Q R hp k => h2 σ H F Q (w.rel R) hp fun v H' fp s r kd => k v H' fp s r kd⟩
theorem TX.wk {G' : Gam} {x : Bool} (w : Wk G G') (h : TX X G' e p x) : TX X G e p x := by
  obtain ⟨te, h1, h2⟩ := h
  exact ⟨te, h1, fun σ H F Q R hp k => h2 σ H F Q (w.rel R) hp k⟩
theorem LCX.wk {G' : Gam} {u : Type} [Enc u] {ys : List u} {elt tg iter : Expr} {ifs : List Expr} {scope : Scope} {own : List (Str × Nat)} (w : Wk G G') (h : LCX X N sc G' elt tg iter ifs scope own p ys .frs) : LCX X N sc G elt tg iter ifs scope own p ys .frs := by
  obtain ⟨wi, g, tt, te, h1, h2, h3, h4, h5, h6⟩ := h.ex
  exact ⟨wi, g, tt, te, h1, h2, h3, h4, h5, fun σ H F Q R hp k => h6 σ H F Q (w.rel R) hp fun v H' fp s r kd => k v H' fp s r kd⟩
end
end BW

set_option Elab.async false
set_option linter.all false
set_option maxRecDepth 100000
set_option maxHeartbeats 4000000
/-! More expressions: any, all, the less of a pair, a pair walked, x[i] += e. -/
namespace BW
open PySem L2 PyProof.Rows
section
variable {X : Cx} {G : Gam} {N : List Str} {sc : Scope} {e a b c : Expr} {es : List Expr} {p pa pb pr q : Prop} {pos ppos : Pos}
theorem Reps.bls {K : PySem.W.Frag} {H : Hp} : ∀ {fp : List Addr} {vs : List V} {ns : List Bool}, Reps K H fp vs (ns.map enc) → vs = ns.map V.bl
  | _, _, [], r => by cases r; rfl
  | _, _, n :: ns, r => by
    cases r with
    | cons h r =>
      obtain ⟨e1, _⟩ := h.bl_inv
      rw [e1, Reps.bls r]
      rfl
theorem ex_anyL (C : Cxf X N sc) (hg : sc.names.lookup ("any" : Str) = some .globalImplicit) (hm : X.mg "any" = none) {xs : List Bool} {k : Kd} (ha : EX X G e p xs k) (hs : starEach [e] X.env = (false, eval e X.env) :: starEach [] X.env := by rfl) :
    EX X G (.Call (.Name "any" ppos) [e] [] pos) p (xs.any id) .frs :=
  ex_cb (pr := True) C (cr_any C.calm) hg hm (by decide +kernel) (ax1 ha hs) (fun _ H fp vs Q r k => by
    obtain ⟨v, rfl, r1⟩ := r.one
    obtain ⟨l, ws, fp', rfl, hq, rs, _⟩ := r1.lst_inv
    have z := Reps.bls rs
    subst z
    exact ⟨l, xs, rfl, hq, k _ H [] (Same.refl _) (.bl _) List.nodup_nil (fun _ h => nomatch h)⟩) (.l p) (by decide) (by decide) hs rfl
theorem ex_allL (C : Cxf X N sc) (hg : sc.names.lookup ("all" : Str) = some .globalImplicit) (hm : X.mg "all" = none) {xs : List Bool} {k : Kd} (ha : EX X G e p xs k) (hs : starEach [e] X.env = (false, eval e X.env) :: starEach [] X.env := by rfl) :
    EX X G (.Call (.Name "all" ppos) [e] [] pos) p (xs.all id) .frs :=
  ex_cb (pr := True) C (cr_all C.calm) hg hm (by decide +kernel) (ax1 ha hs) (fun _ H fp vs Q r k => by
    obtain ⟨v, rfl, r1⟩ := r.one
    obtain ⟨l, ws, fp', rfl, hq, rs, _⟩ := r1.lst_inv
    have z := Reps.bls rs
    subst z
    exact ⟨l, xs, rfl, hq, k _ H [] (Same.refl _) (.bl _) List.nodup_nil (fun _ h => nomatch h)⟩) (.l p) (by decide) (by decide) hs rfl

/-! min of a pair -/
section
variable {prog : Program} {w : World} {A : Around} {E : Value → Shared → Prop} {s : Shared} {l : Addr}
theorem minT2_raw {x y : Int} {t u : Tok} {Q : Value → Shared → Prop} (hh : A.handled = none) (hl : s.heap.IsTuple l #[.int x t, .int y u])
    (h : ∀ h' tk t', (∀ c o, s.heap.get? c = some o → h'.get? c = some o) → Q (.int (min x y) t') { s with heap := h', toks := tk }) :
    wpAny (model prog w) A (call (.builtin "min") [.ref l]) Q E s := by
  have hlt : l < s.heap.objs.size := by obtain ⟨_, e, _⟩ := hl; exact Heap.lt_size e
  have hT : s.heap.IsTuple l (intItems #[(x, t), (y, u)]) := by simpa [intItems] using hl
  refine call_min_walk (wpAny_pyIter_tuple hT ?_)
  refine ⟨_, [_, l], [_], _, _, _, _, rfl, Walks.tuple (A := A.in1) hh _ l (Nat.ne_of_lt hlt) (intItems #[(x, t), (y, u)]),
    ⟨⟨_, Heap.get?_push_size _ rfl, rfl, rfl⟩, hT.push _⟩, fun c hc => ?_, by simp [intItems], CmpOf.ints_lt (numAt #[(x, t), (y, u)]) (fun _ _ => intItems_at), fun v h' tk hP hk => ?_⟩
  · show c < (s.heap.push _).objs.size
    rw [Heap.size_push]
    rcases List.mem_cons.mp hc with rfl | hc
    · exact Nat.lt_succ_self _
    · rcases List.mem_cons.mp hc with rfl | hc
      · exact Nat.lt_succ_of_lt hlt
      · cases hc
  · have hP' : (intItems #[(x, t), (y, u)])[argBest (fun i j => decide (numAt #[(x, t), (y, u)] i < numAt #[(x, t), (y, u)] j)) 1]? = some v := by
      have hsz2 : (intItems #[(x, t), (y, u)]).size - 1 = 1 := by simp [intItems]
      rw [← hsz2]; exact hP
    have hold : ∀ c o, s.heap.get? c = some o → h'.get? c = some o := fun c o e => hk c o (fun hm => absurd (Heap.lt_size e) (by rw [List.mem_singleton.mp hm]; exact Nat.lt_irrefl _)) (Heap.get?_push_of_some _ e)
    by_cases hxy : y < x
    · have e : min x y = y := by omega
      have hv : v = .int y u := by
        simp [argBest, numAt, hxy, intItems] at hP'
        exact hP'.symm
      subst hv
      rw [← e]
      have := h h' tk u hold
      rwa [e] at this ⊢
    · have e : min x y = x := by omega
      have hv : v = .int x t := by
        simp [argBest, numAt, hxy, intItems] at hP'
        exact hP'.symm
      subst hv
      have := h h' tk t hold
      rwa [e] at this
end
def rMinT2 (K : PySem.W.Frag) : List V → Hp → VK → Prop := fun vs H Q => ∃ (p : Addr) (x y : Int), vs = [.ref p] ∧ SqT K H p [.int x, .int y] ∧ Q (.int (min x y)) H
theorem cr_minT2 (hc : X.calm = true) : CallR X (.builtin "min") (rMinT2 X.K) := by
  intro pins s σ H vs us Q I r h
  obtain ⟨a, x, y, rfl, hs, q⟩ := h
  obtain ⟨its, rv, hl, _⟩ := I.tuple hs
  rw [Vals.ref1 r]
  cases rv with
  | cons r1 rv => cases rv with
    | cons r2 rv =>
      cases rv
      obtain ⟨t, rfl⟩ := r1
      obtain ⟨u, rfl⟩ := r2
      exact minT2_raw (I.ok.hd hc) hl fun h' tk t' hk => ⟨.int _, H, I.kept hk, ⟨_, rfl⟩, q⟩
theorem ex_minT2 (C : Cxf X N sc) (hg : sc.names.lookup ("min" : Str) = some .globalImplicit) (hm : X.mg "min" = none) {x : Int × Int} {k : Kd} (ha : EX X G e p x k) (hs : starEach [e] X.env = (false, eval e X.env) :: starEach [] X.env := by rfl) :
    EX X G (.Call (.Name "min" ppos) [e] [] pos) p (min x.1 x.2) .frs :=
  ex_cb (pr := True) C (cr_minT2 C.calm) hg hm (by decide +kernel) (ax1 ha hs) (fun _ H fp vs Q r k => by
    obtain ⟨v, rfl, r1⟩ := r.one
    obtain ⟨l, ws, rfl, hq, rs⟩ := Rep.tup_inv (show Rep X.K H _ v (.tup [.int x.1, .int x.2]) from r1)
    obtain ⟨e1, _⟩ := Reps.ints (ns := [x.1, x.2]) rs
    subst e1
    exact ⟨l, x.1, x.2, rfl, hq, k _ H [] (Same.refl _) (.int _) List.nodup_nil (fun _ h => nomatch h)⟩) (.l p) (by decide) (by decide) hs rfl
/-- a pair of numbers, walked -/
theorem ix_pair {x : Int × Int} {k : Kd} {tg : Expr} (ha : EX X G a p x k) : IX X G tg a p [x.1, x.2] := by
  obtain ⟨ta, a1, a2⟩ := ha
  refine ⟨_, pi_tup a1, fun σ H F R Rl hp k => a2 σ H F _ Rl hp fun v H1 fp s1 r1 k1 => ?_⟩
  have zf := Flat.flat x r1
  subst zf
  have inv : ∀ {H : Hp}, Rep X.K H [] v (enc x) → ∃ l, v = .ref l ∧ SqT X.K H l [.int x.1, .int x.2] := fun {H} r => by
    obtain ⟨l, vs, e, h1, rs⟩ := Rep.tup_inv (show Rep X.K H _ v (.tup [.int x.1, .int x.2]) from r)
    obtain ⟨e1, _⟩ := Reps.ints (ns := [x.1, x.2]) rs
    subst e1
    exact ⟨l, e, h1⟩
  obtain ⟨l, rfl, h1⟩ := inv r1
  refine ⟨l, rfl, ⟨_, h1⟩, k _ H1 [] (fun H => Rep X.K H [] (.ref l) (enc x)) s1 (fun _ h => nomatch h) (fun _ h => nomatch h) pst_rep r1 ?_⟩
  refine (walk_tup (K := X.K) (a := l) (xs := [V.int x.1, V.int x.2])).mono (fun H h => ?_) fun i H x' H' hi _ y => ?_
  · obtain ⟨l', e, h⟩ := inv h
    injection e with e
    subst e
    exact h
  · obtain ⟨e1, e2⟩ := y
    subst e1
    refine ⟨Same.refl _, [], ?_⟩
    have e2 : [V.int x.1, V.int x.2][i]? = some x' := e2
    match i, e2 with
    | 0, e2 => exact ⟨x.1, rfl, by simp at e2; subst e2; exact .int _, fun _ h => nomatch h⟩
    | 1, e2 => exact ⟨x.2, rfl, by simp at e2; subst e2; exact .int _, fun _ h => nomatch h⟩
    | (n + 2), e2 => simp at e2
/-! x[i] += e -/
theorem get_listG : PGet X (rIxL X.K) := by
  intro pins s σ H x y v u Q I rx ry h
  obtain ⟨p, xs, i, z, rfl, rfl, hq, he, q⟩ := h
  cases rx
  obtain ⟨t, rfl⟩ := ry
  obtain ⟨its, r, pl, hz⟩ := I.list hq
  obtain ⟨j, h1, h2, h3, h4, h5⟩ := atI_get he
  obtain ⟨w, ew, rw'⟩ := r.get h2
  have hl := r.length
  have hn := line63
  have fin : EP X pins σ Q w s := ⟨z, H, I, rw', q⟩
  by_cases h0 : 0 ≤ i
  · have hj : i.toNat = j := by
      rw [seqIndex_of h0 h5] at h1
      exact Option.some.inj h1
    exact wpAny_getItem_list pl.isList h0 (by omega) (by rw [hj]; simpa using ew) fin
  · have hj : (i + (its.toArray.size : Int)).toNat = j := by
      rw [seqIndex_neg (by omega) h4] at h1
      rw [List.size_toArray, ← hl]
      exact Option.some.inj h1
    exact wpAny_getItem_list_neg pl.isList (by omega) (by rw [List.size_toArray] <;> omega) (by omega) (by rw [hj]; simpa using ew) fin
end
section
variable {X : Cx} {G : Gam} {N : List Str} {sc : Scope} {e a b c : Expr} {es : List Expr} {p pa pb pr q : Prop} {pos ppos : Pos}
variable {W : WX} {S B R : Type} [Ret R] {g : S → Gam} {gb : B → Gam} {rest : List Stmt}
theorem sx_augitem {xs : List Int} {z : Int} {ix : Int} {y : Str} {npos spos : Pos} {kx ky : Kd} {pR : List Int → Prop} {oR : List Int → Out S B R} {p1 p2 : Prop} (C : Cxf X N sc) (i : Nat) (V : Vr N sc i y) (hi : EX X G a pb ix ky) (he : EX X G e pa z kx)
    (hR : ∀ zs : List Int, SX X W (G.set i (.val true (enc zs))) rest (pR zs) g gb (oR zs)) (c1 : Cmb pb pa p1) (c2 : Cmb p1 (IxOk xs.length ix) p2) (c3 : Cmb p2 (lt (pySet xs ix (pyGet 0 xs ix + z)) pR) p) (h : G[i]? = some (.val true (enc xs)) := by rfl)
    (hau : ∀ ov iv new, augStore a ov iv new = (do holding [new, ov, iv] (setItem ov iv new); release [new, ov, iv] []; pure .next) := by intros; rfl) :
    SX X W G (.AugAssign (.Subscript (.Name y npos) a spos) .Add e pos :: rest) p g gb (lt (pySet xs ix (pyGet 0 xs ix + z)) oR) := by
  obtain ⟨te, h1, h2⟩ := he
  obtain ⟨ti, i1, i2⟩ := hi
  obtain ⟨ts, r1, r2⟩ := hR (pySet xs ix (pyGet 0 xs ix + z))
  refine ⟨_, pss_cons (ps_augS (pe_slot C V) i1 get_listG h1 ip_add set_list hau) r1, fun σ H F D Rl hp k => ?_⟩
  obtain ⟨hp2, hpR⟩ := c3.out hp
  obtain ⟨hp1, hix⟩ := c2.out hp2
  obtain ⟨hpb, hpa⟩ := c1.out hp1
  obtain ⟨v, ev, rv⟩ := Rl.rep i _ _ h
  refine ⟨v, ev, i2 σ H F _ Rl hpb fun u H1 fp s1 r1' kd => ?_⟩
  have Rl1 := Rl.same s1
  obtain ⟨l, vs, fpi, rfl, hl, rs, eF⟩ := (rv.same s1).lst_inv'
  obtain ⟨rfl, _⟩ := r1'.int_inv
  obtain ⟨e0, ef⟩ := Reps.ints (ns := xs) rs
  subst e0 ef
  have at' : atI (xs.map L2.V.int) ix = some (L2.V.int (pyGet 0 xs ix)) := by
    obtain ⟨j, ej, hj⟩ := ixN_some hix
    unfold atI pyGet
    rw [List.length_map, ej]
    simp [hj]
  refine ⟨l, _, ix, _, rfl, rfl, SqL.of hl, at', h2 σ H1 F _ Rl1 hpa fun w H2 fp2 s2 r2' kd2 => ?_⟩
  obtain ⟨rfl, _⟩ := r2'.int_inv
  refine ⟨_, _, rfl, rfl, ?_⟩
  obtain ⟨l2, vs2, fpi2, el, hl2, rs2, eF2⟩ := (rv.same (s1.trans s2)).lst_inv'
  injection el with el
  subst el
  obtain ⟨e0, ef⟩ := Reps.ints (ns := xs) rs2
  subst e0 ef
  obtain ⟨j, ej, hj⟩ := ixN_some hix
  refine ⟨l, _, ix, j, rfl, rfl, hl2, by rw [List.length_map]; exact ej, ?_⟩
  have es : (pySet xs ix (pyGet 0 xs ix + z)).map L2.V.int = (xs.map L2.V.int).set j (.int (pyGet 0 xs ix + z)) := by unfold pySet; rw [ej]; exact List.map_set
  obtain ⟨q1, q2⟩ := own_upd (fp' := []) (vs' := (pySet xs ix (pyGet 0 xs ix + z)).map L2.V.int) (ds' := (pySet xs ix (pyGet 0 xs ix + z)).map enc) Rl (s1.trans s2) h ev eF hl2 (Reps.of_ints _) (by simp) (fun _ h => nomatch h)
  rw [es] at q1 q2
  exact r2 _ _ _ D q1 hpR (k.of q2)
theorem sx_augitemV {xs : List Int} {z : Int} {ix : Int} {y : Str} {npos spos : Pos} {kx ky : Kd} {pR : List Int → Prop} {rR : List Int → R} {p1 p2 : Prop} (C : Cxf X N sc) (i : Nat) (V : Vr N sc i y) (hi : EX X G a pb ix ky) (he : EX X G e pa z kx)
    (hR : ∀ zs : List Int, SX X W (G.set i (.val true (enc zs))) rest (pR zs) g gb (.ret (rR zs) : Out S B R)) (c1 : Cmb pb pa p1) (c2 : Cmb p1 (IxOk xs.length ix) p2) (c3 : Cmb p2 (lt (pySet xs ix (pyGet 0 xs ix + z)) pR) p) (h : G[i]? = some (.val true (enc xs)) := by rfl)
    (hau : ∀ ov iv new, augStore a ov iv new = (do holding [new, ov, iv] (setItem ov iv new); release [new, ov, iv] []; pure .next) := by intros; rfl) :
    SX X W G (.AugAssign (.Subscript (.Name y npos) a spos) .Add e pos :: rest) p g gb (.ret (lt (pySet xs ix (pyGet 0 xs ix + z)) rR) : Out S B R) :=
  sx_augitem (oR := fun zs => (.ret (rR zs) : Out S B R)) C i V hi he hR c1 c2 c3 h hau
theorem sx_augitemF {xs : List Int} {z : Int} {ix : Int} {y : Str} {npos spos : Pos} {kx ky : Kd} {pR : List Int → Prop} {rR : List Int → S} {p1 p2 : Prop} (C : Cxf X N sc) (i : Nat) (V : Vr N sc i y) (hi : EX X G a pb ix ky) (he : EX X G e pa z kx)
    (hR : ∀ zs : List Int, SX X W (G.set i (.val true (enc zs))) rest (pR zs) g gb (.fall (rR zs) : Out S B R)) (c1 : Cmb pb pa p1) (c2 : Cmb p1 (IxOk xs.length ix) p2) (c3 : Cmb p2 (lt (pySet xs ix (pyGet 0 xs ix + z)) pR) p) (h : G[i]? = some (.val true (enc xs)) := by rfl)
    (hau : ∀ ov iv new, augStore a ov iv new = (do holding [new, ov, iv] (setItem ov iv new); release [new, ov, iv] []; pure .next) := by intros; rfl) :
    SX X W G (.AugAssign (.Subscript (.Name y npos) a spos) .Add e pos :: rest) p g gb (.fall (lt (pySet xs ix (pyGet 0 xs ix + z)) rR) : Out S B R) :=
  sx_augitem (oR := fun zs => (.fall (rR zs) : Out S B R)) C i V hi he hR c1 c2 c3 h hau
end
end BW

set_option Elab.async false
set_option linter.all false
set_option maxRecDepth 100000
set_option maxHeartbeats 4000000
/-! A loop over a list that is owned, whose body only asks. -/
namespace BW
open PySem L2
section
variable {X : Cx} {G : Gam} {N : List Str} {sc : Scope} {e a b c : Expr} {es : List Expr} {p pa pb pr q pI pF : Prop} {pos ppos ipos : Pos}
variable {W : WX} {S B R : Type} [Ret R] {g : S → Gam} {gb : B → Gam} {rest : List Stmt}
theorem s1_forTest {t : Type} [Enc t] [Flat t] {G0 : Gam} {xs : List t} {tg iter : Expr} {sa : List Stmt} {n : Nat} {is : List Nat} {T : Gam → t → Gam} {px : t → Prop} {bx : t → Bool} {rx : t → R} (C : Cxf X N sc) (own : PassesOwn (model X.prog X.w) X.A X.env X.xe)
    (hI : EX X G iter pI xs .any) (hT : TGT X n tg is T) (hn : G0.length = n) (w : Wk G G0) (hW : ∀ x, Wk (T G0 x) G0) (hB : ∀ x : t, TX X (T G0 x) c (px x) (bx x))
    (hA : ∀ x : t, SX X W (T G0 x) sa True (fun _ : Unit => G0) (fun _ : Unit => G0) (.ret (rx x) : Out Unit Unit R))
    (c1 : Cmb pI (loopP (fun (_ : Unit) x => px x) (fun (_ : Unit) x => (if bx x = true then .ret (rx x) else .fall () : Out Unit Unit R)) () xs) p)
    (hs : ∀ x, foldedSetIterable iter X.env x = pure x := by intro _; rfl) : S1 X W G (.For tg iter [.If c sa [] ipos] [] pos) p (fun _ : Unit => G0) gb (loopL (fun (_ : Unit) x => (if bx x = true then .ret (rx x) else .fall () : Out Unit Unit R)) () xs : Out Unit B R) := by
  obtain ⟨ta, a1, a2⟩ := hI
  refine ⟨_, ps_for own C.calm (pi_list a1) hT.canon (pss_one (ps_if (TX.canon (I := t) (Gx := fun x => T G0 x) (px := px) (bx := bx) hB) (SX.canon (I := t) (Gx := fun x => T G0 x) (px := fun _ => True) (ox := fun x => (.ret (rx x) : Out Unit Unit R)) hA) pss_nil)) hs, fun σ H F D Rl hp k => ?_⟩
  obtain ⟨hpI, hpB⟩ := c1.out hp
  refine a2 σ H F _ Rl hpI fun v H1 fp s1 r1 _ => ?_
  obtain ⟨l, vs0, fp', rfl, h1, rs0, e0⟩ := r1.lst_inv'
  have hl0 := rs0.length
  rw [List.length_map] at hl0
  have Rl1 := Rl.same s1
  have inv : ∀ {H2 : Hp}, Rep X.K H2 fp (.ref l) (enc xs) → ∃ vs', SqL X.K H2 l vs' ∧ Reps X.K H2 fp' vs' (xs.map enc) ∧ vs'.length = xs.length := fun {H2} r => by
    obtain ⟨l', vs', f', e1, h', rs', e2⟩ := r.lst_inv'
    injection e1 with e1
    subst e1
    rw [e0] at e2
    injection e2 with _ e2
    subst e2
    have hl := rs'.length
    rw [List.length_map] at hl
    exact ⟨vs', SqL.of h', rs', hl⟩
  refine ⟨l, rfl, ⟨vs0, SqL.of h1⟩, ?_⟩
  have wk : Walk (Itl X.K l) xs.length (fun H2 => Rep X.K H2 fp (.ref l) (enc xs)) (fun i H2 x H3 => H3 = H2 ∧ ∃ y, xs[i]? = some y ∧ Rep X.K H2 [] x (enc y)) := by
    refine ⟨fun i H2 hi g => ?_, fun H2 g => ?_, fun i H2 x H3 hi g y => ?_⟩
    · obtain ⟨vs', h', _, hl⟩ := inv g
      exact ⟨vs', vs'[i]'(by omega), h', by simp [show i < vs'.length by omega]⟩
    · obtain ⟨vs', h', _, hl⟩ := inv g
      exact ⟨vs', h', by omega⟩
    · obtain ⟨e3, hx⟩ := y
      obtain ⟨vs', h', rs', hl⟩ := inv g
      have q := hx vs' h'
      obtain ⟨u, fu, e4, ru, su, _⟩ := rs'.get (i := i) (d := enc xs[i]) (by simp [hi])
      rw [q] at e4
      have e5 := Option.some.inj e4
      subst e5
      have z := Flat.flat _ ru
      subst z
      exact ⟨e3, xs[i], by simp [hi], ru⟩
  let oB : Unit → t → Out Unit Unit R := fun (_ : Unit) x => (if bx x = true then .ret (rx x) else .fall () : Out Unit Unit R)
  refine for_it wk (fun i σ' H' => ∃ (F' : Nat → List Addr), Rel X.K G0 σ' H' F' ∧ Frm (InO G F) H1 (InO G0 F') H' ∧ Same H1 H' ∧ loopP (fun (_ : Unit) x => px x) oB () (xs.drop i) ∧ (loopL oB () xs : Out Unit B R) = loopL oB () (xs.drop i)) ?_ ?_ ?_ ?_
  · exact ⟨F, w.rel Rl1, w.frm, Same.refl _, hpB, rfl⟩
  · exact fun i σ' H' _ ⟨F', _, _, s, _⟩ => r1.same s
  · rintro i x σ' H' H2 hi ⟨F', R', f', ss, hP, hE⟩ ⟨e3, y, ey, ry⟩
    subst e3
    have hd : xs.drop i = y :: xs.drop (i + 1) := by
      rw [List.drop_eq_getElem_cons hi]
      congr 1
      rw [List.getElem?_eq_getElem hi] at ey
      exact Option.some.inj ey
    rw [hd] at hP hE
    obtain ⟨hP1, hP2⟩ := hP
    refine ⟨G0, y, F', [], hn, R', ry, (fun _ h => nomatch h), fun σ2 F2 l2 R2 f2 m2 i2 o2 j2 e2 => ?_⟩
    have fr : Frm (InO G F) H1 (InO (T G0 y) F2) H2 := f'.trans f2
    refine ⟨y, F2, R2, hP1, fun H3 s3 => ?_⟩
    have R3 := R2.same s3
    have fr3 : Frm (InO G F) H1 (InO (T G0 y) F2) H3 := fr.trans (R2.frm s3)
    have he : (loopL oB () xs : Out Unit B R) = stepO (oB () y) (fun s' => loopL oB s' (xs.drop (i + 1))) := hE
    have hP3 : stepP (oB () y) (fun s' => loopP (fun (_ : Unit) x => px x) oB s' (xs.drop (i + 1))) := hP2
    cases hb : bx y with
    | true =>
      refine iteT ?_
      have ob : oB () y = .ret (rx y) := if_pos hb
      rw [ob] at he
      refine ⟨y, F2, R3, trivial, ?_⟩
      have k' : OutOk X W G F H (fun _ : Unit => G0) gb D (.ret (rx y) : Out Unit B R) := by
        have z : (loopL oB () xs : Out Unit B R) = .ret (rx y) := he
        rw [← z]
        exact k
      have frH : Frm (InO G F) H (InO (T G0 y) F2) H3 := (Rl.frm s1).trans fr3
      exact Ret.of (show Ret.ok X.K (InO G F) H D.rt (rx y) from k') frH
    | false =>
      refine iteF ?_
      have ob : oB () y = .fall () := if_neg (by rw [hb]; exact Bool.false_ne_true)
      rw [ob] at he hP3
      exact ⟨F2, (hW y).rel R3, fr3.trans (hW y).frm, ss.trans s3, hP3, he⟩
  · rintro σ' H' ⟨F', R', f', ss, hP, hE⟩
    rw [List.drop_length] at hE
    have k' : OutOk X W G F H (fun _ : Unit => G0) gb D (.fall () : Out Unit B R) := by
      have z : (loopL oB () xs : Out Unit B R) = .fall () := hE
      rw [← z]
      exact k
    exact k' σ' H' F' R' ((Rl.frm s1).trans f')
end
end BW

set_option Elab.async false
set_option linter.all false
set_option maxRecDepth 100000
set_option maxHeartbeats 4000000
/-! Values that may be None; outcomes. -/
namespace BW
open PySem L2
/-- an outcome: ('word', n) or ('broken', where) -/
inductive Oc where
  | word (n : Int)
  | broken (s : Str)
deriving DecidableEq
instance : Enc Oc := ⟨fun o => match o with | .word n => .tup [.str (Str.ofString "word"), .int n] | .broken s => .tup [.str (Str.ofString "broken"), .str s]⟩
def ocTag : Oc → Str
  | .word _ => Str.ofString "word"
  | .broken _ => Str.ofString "broken"
def ocWord : Oc → Int
  | .word n => n
  | .broken _ => 0
def ocIsW : Oc → Bool
  | .word _ => true
  | .broken _ => false
instance : Flat Oc := ⟨fun {K H fp v} x r => by
  cases x with
  | word n => exact Flat.flat (Str.ofString "word", n) r
  | broken s => exact Flat.flat (Str.ofString "broken", s) r⟩
theorem word_broken : Str.ofString "word" ≠ Str.ofString "broken" := by decide +kernel
theorem int_str_eqv (n : Int) (s : Str) : PyData.eqv (.int n) (.str s) = false ∧ PyData.eqv (.str s) (.int n) = false := ⟨rfl, rfl⟩
theorem eqv_str (a b : Str) : PyData.eqv (.str a) (.str b) = decide (a = b) := PyEq.eq a b
theorem eqv_int (a b : Int) : PyData.eqv (.int a) (.int b) = decide (a = b) := PyEq.eq a b
theorem oc_eq (x y : Oc) : PyData.eqv (pyd (enc x)) (pyd (enc y)) = decide (x = y) := by
  cases x with
  | word n => cases y with
    | word m =>
      show (PyData.eqv (.str (Str.ofString "word")) (.str (Str.ofString "word")) && (PyData.eqv (.int n) (.int m) && true)) = _
      rw [eqv_str, eqv_int]
      simp
    | broken s =>
      show (PyData.eqv (.str (Str.ofString "word")) (.str (Str.ofString "broken")) && (PyData.eqv (.int n) (.str s) && true)) = _
      rw [eqv_str]
      simp [word_broken]
  | broken s => cases y with
    | word m =>
      show (PyData.eqv (.str (Str.ofString "broken")) (.str (Str.ofString "word")) && (PyData.eqv (.str s) (.int m) && true)) = _
      rw [eqv_str]
      simp [word_broken.symm]
    | broken t =>
      show (PyData.eqv (.str (Str.ofString "broken")) (.str (Str.ofString "broken")) && (PyData.eqv (.str s) (.str t) && true)) = _
      rw [eqv_str, eqv_str]
      simp
instance : PyEq Oc := ⟨1, fun o => match o with | .word _ => true | .broken s => PySem.PyData.strOk s, oc_eq, fun x h => by
  cases x with
  | word n => show ((PyData.canLay0 (.str (Str.ofString "word"))) && ((PyData.canLay0 (.int n)) && true)) = true; rw [show PyData.canLay0 (.str (Str.ofString "word")) = true by decide +kernel]; rfl
  | broken s =>
    show ((PyData.canLay0 (.str (Str.ofString "broken"))) && ((PyData.canLay0 (.str s)) && true)) = true
    have : PyData.canLay0 (.str s) = true := h
    rw [this, show PyData.canLay0 (.str (Str.ofString "broken")) = true by decide +kernel]; rfl, fun x => by
  cases x with
  | word n => exact Nat.le_refl _
  | broken s => exact Nat.le_refl _⟩
/-- never None -/
class NonN (t : Type) [Enc t] : Prop where
  nn : ∀ x : t, PyData.eqv .none (pyd (enc x)) = false ∧ PyData.eqv (pyd (enc x)) .none = false
instance : NonN Int := ⟨fun _ => ⟨rfl, rfl⟩⟩
instance : NonN Bool := ⟨fun _ => ⟨rfl, rfl⟩⟩
instance : NonN Str := ⟨fun _ => ⟨rfl, rfl⟩⟩
instance : NonN Oc := ⟨fun x => by cases x <;> exact ⟨rfl, rfl⟩⟩
instance {t : Type} [Enc t] : NonN (List t) := ⟨fun _ => ⟨rfl, rfl⟩⟩
instance {a b : Type} [Enc a] [Enc b] : NonN (a × b) := ⟨fun _ => ⟨rfl, rfl⟩⟩
instance {a b c : Type} [Enc a] [Enc b] [Enc c] : NonN (T3 a b c) := ⟨fun _ => ⟨rfl, rfl⟩⟩
instance {t : Type} [Enc t] [DecidableEq t] [PyEq t] [NonN t] : PyEq (Option t) := ⟨PyEq.dep t, fun o => match o with | none => true | some x => PyEq.good x, fun x y => by
  cases x with
  | none => cases y with
    | none => exact (decide_eq_true rfl).symm
    | some y => rw [decide_eq_false (by exact nofun)]; exact (NonN.nn y).1
  | some x => cases y with
    | none => rw [decide_eq_false (by exact nofun)]; exact (NonN.nn x).2
    | some y =>
      have := PyEq.eq x y
      rw [show decide (some x = some y) = decide (x = y) by simp]
      exact this, fun x h => by
  cases x with
  | none => rfl
  | some x => exact PyEq.lay x h, fun x => by
  cases x with
  | none => exact Nat.zero_le _
  | some x => exact PyEq.dp x⟩
instance {t : Type} [Enc t] [DecidableEq t] [PyEq t] [NonN t] [PyEq0 t] : PyEq0 (Option t) := ⟨fun x => by
  cases x with
  | none => rfl
  | some x => exact PyEq0.all x⟩
section
variable {X : Cx} {G : Gam} {N : List Str} {sc : Scope} {e a b c : Expr} {es : List Expr} {p pa pb pr q : Prop} {pos ppos : Pos}
/-- a value that is there -/
theorem EX.sm {t : Type} [Enc t] {x : Option t} {k : Kd} (d : t) (h : EX X G e pa x k) (c : Cmb pa (x.isSome = true) p) : EX X G e p (x.getD d) k := by
  obtain ⟨te, h1, h2⟩ := h
  refine ⟨te, h1, fun σ H F Q R hp q => ?_⟩
  obtain ⟨hpa, hs⟩ := c.out hp
  refine h2 σ H F Q R hpa fun v H' fp s r kd => q v H' fp s ?_ kd
  cases x with
  | none => cases hs
  | some y => exact r
theorem ex_oc0 {x : Oc} {kx ky : Kd} (ha : EX X G a p x kx) (hb : EX X G b True (0 : Int) ky) (hs : PlainIx b := by exact fun _ _ => rfl) : EX X G (.Subscript a b pos) p (ocTag x) kx := by
  cases x with
  | word n => exact ex_ixT (ocTag (.word n)) ha hb 0 rfl rfl rfl hs
  | broken s => exact ex_ixT (ocTag (.broken s)) ha hb 0 rfl rfl rfl hs
theorem ex_oc1 {x : Oc} {kx ky : Kd} (ha : EX X G a pa x kx) (hb : EX X G b True (1 : Int) ky) (c : Cmb pa (ocIsW x = true) p) (hs : PlainIx b := by exact fun _ _ => rfl) : EX X G (.Subscript a b pos) p (ocWord x) kx := by
  cases x with
  | word n =>
    have h := ex_ixT (pos := pos) (ocWord (.word n)) ha hb 1 rfl rfl rfl hs
    obtain ⟨te, h1, h2⟩ := h
    exact ⟨te, h1, fun σ H F Q R hp q => h2 σ H F Q R (c.out hp).1 q⟩
  | broken s =>
    have h := ex_ixT (pos := pos) s ha hb 1 rfl rfl rfl hs
    obtain ⟨te, h1, h2⟩ := h
    exact ⟨te, h1, fun σ H F Q R hp q => nomatch (c.out hp).2⟩
theorem ex_lenT (C : Cxf X N sc) (hg : sc.names.lookup ("len" : Str) = some .globalImplicit) (hm : X.mg "len" = none) {t : Type} [Enc t] {x : t} {k : Kd} (n : Nat) (ha : EX X G e p x k) (hx : ∃ ds, enc x = .tup ds ∧ ds.length = n) (hs : starEach [e] X.env = (false, eval e X.env) :: starEach [] X.env := by rfl) :
    EX X G (.Call (.Name "len" ppos) [e] [] pos) p (n : Int) .frs := by
  obtain ⟨ds, hx, hn⟩ := hx
  exact ex_cb (pr := True) C call_len_seq hg hm PySem.boot_len (ax1 ha hs) (fun _ H fp vs Q r k => by
    obtain ⟨v, rfl, r1⟩ := r.one
    obtain ⟨l, ws, rfl, hq, rs⟩ := Rep.tup_inv (show Rep X.K H _ v (.tup ds) from hx ▸ r1)
    refine ⟨l, ws, rfl, .inr hq, ?_⟩
    rw [rs.length, hn]
    exact k _ H [] (Same.refl _) (.int _) List.nodup_nil (fun _ h => nomatch h)) (.l p) (by decide) (by decide) hs rfl
end
end BW

set_option Elab.async false
set_option linter.all false
set_option maxRecDepth 100000
set_option maxHeartbeats 4000000
/-! A tuple of numbers, walked. -/
namespace BW
open PySem L2 PyProof.Rows
theorem exg_of {K : PySem.W.Frag} {mg : Str → Option Value} {x : Str} (g : mg x = some (.ref (He.ga K x))) (c : (He.Fa.exc x).ok K = true) : ExG K mg x := by
  obtain ⟨a, b, c, d⟩ := He.exc_ok c
  exact ⟨_, g, a, b, c, d⟩
theorem NF.lt {S B R t : Type} {v : t} {f : t → Out S B R} (h : ∀ x, NF (f x)) : NF (lt v f) := h v
theorem NF.exThen {S B R t : Type} {r : Except Str t} {f : t → Out S B R} (h : ∀ x, NF (f x)) : NF (exThen r f) := by
  cases r
  · exact .exc _
  · exact h _
theorem NF.bind {T S B R : Type} {o : Out T B R} {f : T → Out S B R} (h : ∀ x, NF (f x)) : NF (o.bind f) := by
  cases o
  · exact h _
  · exact .brk _
  · exact .cnt _
  · exact .ret _
  · exact .exc _
theorem NF.bindN {T S B R : Type} {o : Out T B R} {f : T → Out S B R} (h : ∀ x, NF (f x)) : NF (o.bind f) := .bind h
theorem NX.lt {S B R t : Type} {v : t} {f : t → Out S B R} (h : ∀ x, NX (f x)) : NX (lt v f) := h v
theorem NR.lt {S B R t : Type} {v : t} {f : t → Out S B R} (h : ∀ x, NR (f x)) : NR (lt v f) := h v
section
variable {X : Cx} {G : Gam} {N : List Str} {sc : Scope} {e a b c : Expr} {es : List Expr} {p pa pb pr q : Prop} {pos ppos : Pos}
theorem ix_ints {t : Type} [Enc t] [Flat t] {x : t} {k : Kd} {tg : Expr} (xs : List Int) (ha : EX X G a p x k) (hx : enc x = .tup (xs.map D.int) := by rfl) : IX X G tg a p xs := by
  obtain ⟨ta, a1, a2⟩ := ha
  refine ⟨_, pi_tup a1, fun σ H F R Rl hp k => a2 σ H F _ Rl hp fun v H1 fp s1 r1 k1 => ?_⟩
  have zf := Flat.flat x r1
  subst zf
  have inv : ∀ {H : Hp}, Rep X.K H [] v (enc x) → ∃ l, v = .ref l ∧ SqT X.K H l (xs.map V.int) := fun {H} r => by
    rw [hx] at r
    obtain ⟨l, vs, e, h1, rs⟩ := Rep.tup_inv r
    obtain ⟨e1, _⟩ := Reps.ints (ns := xs) rs
    subst e1
    exact ⟨l, e, h1⟩
  obtain ⟨l, rfl, h1⟩ := inv r1
  have hl : (xs.map V.int).length = xs.length := List.length_map ..
  refine ⟨l, rfl, ⟨_, h1⟩, k _ H1 [] (fun H => Rep X.K H [] (.ref l) (enc x)) s1 (fun _ h => nomatch h) (fun _ h => nomatch h) pst_rep r1 ?_⟩
  have wk := (walk_tup (K := X.K) (a := l) (xs := xs.map V.int))
  rw [hl] at wk
  refine wk.mono (fun H h => ?_) fun i H x' H' hi _ y => ?_
  · obtain ⟨l', e, h⟩ := inv h
    injection e with e
    subst e
    exact h
  · obtain ⟨e1, e2⟩ := y
    subst e1
    refine ⟨Same.refl _, [], ?_⟩
    rw [List.getElem?_map] at e2
    cases hx : xs[i]? with
    | none => rw [hx] at e2; simp at e2
    | some z => rw [hx] at e2; simp at e2; subst e2; exact ⟨z, rfl, .int z, fun _ h => nomatch h⟩
end
end BW

set_option Elab.async false
set_option linter.all false
set_option maxRecDepth 100000
set_option maxHeartbeats 4000000
/-! try .. except X as e. -/
namespace BW
open PySem L2
theorem oc_tup (x : Oc) : isIns (enc x) "tuple" = true := by
  cases x <;> (show (kitB "tuple" "tuple").getD false = true; decide +kernel)
theorem Cxf.tr {X : Cx} {N : List Str} {sc : Scope} (C : Cxf X N sc) (pn : List (Addr × Obj)) (xe : Value → Shared → Prop) : Cxf (X.tr pn xe) N sc := ⟨⟨C.hN, C.hs, C.nd⟩, C.calm⟩
theorem Cxf.su {X : Cx} {N : List Str} {sc : Scope} (C : Cxf X N sc) (a : Addr) (pn : List (Addr × Obj)) : Cx0 (X.suite a pn) N sc := ⟨C.hN, C.hs, C.nd⟩
section
variable {X : Cx} {G : Gam} {N : List Str} {sc : Scope} {e a b c : Expr} {es : List Expr} {p pa pb pr q : Prop} {pos ppos : Pos}
variable {W : WX} {S B R : Type} [Ret R] {g : S → Gam} {gb : B → Gam} {rest : List Stmt}
/-! bodies: one statement that may raise -/
def TryOut (K : PySem.W.Frag) (mg : Str → Option Value) (G : Gam) (F : Nat → List Addr) (σ : St) (H : Hp) (W : WX) (D : Ends) {T : Type} (g : T → Gam) : Except Str T → Prop
  | .ok s => ∀ σ' H' F', Rel K (g s) σ' H' F' → Frm (InO G F) H (InO (g s) F') H' → D.nx σ' H'
  | .error c => ∀ H' u, mg c = some u → Same H H' → W u none σ H'
def tTB (K : PySem.W.Frag) (mg : Str → Option Value) (G : Gam) (p : Prop) {T : Type} (r : Except Str T) (g : T → Gam) (W : WX) : TS := fun D σ H => ∃ F, Rel K G σ H F ∧ p ∧ TryOut K mg G F σ H W D g r
def TB (X : Cx) (G : Gam) (body : List Stmt) (p : Prop) {T : Type} (r : Except Str T) (g : T → Gam) : Prop :=
  ∀ (W : WX) (pn : List (Addr × Obj)) (xe : Value → Shared → Prop), Takes (X.tr pn xe) W → PSs (X.tr pn xe) body (tTB X.K X.mg G p r g W)
theorem tb_expr {t : Type} [Enc t] {r : Except Str t} {k : Kd} (he : ∀ (W : WX) pn xe, Takes (X.tr pn xe) W → ER (X.tr pn xe) W G e p r k) (hs : swapsWith e none pos.line X.env = pure false := by rfl) :
    TB X G [.Expr e pos] p (r.map fun _ => ()) (fun _ : Unit => G) := fun W pn xe tk => by
  obtain ⟨te, h1, h2⟩ := he W pn xe tk
  have h := pss_cons (ps_expr h1 hs) (pss_nil (X := X.tr pn xe))
  refine ⟨fun pins s σ H D I hw => ?_⟩
  obtain ⟨F, Rl, hp, q⟩ := hw
  refine h.run pins s σ H D I (h2 σ H F _ Rl hp ?_)
  cases r with
  | ok x => exact fun v H' fp s' _ _ => q σ H' F (Rl.same s') (Rl.frm s')
  | error c => exact fun H' u hm s' => q H' u hm s'
theorem tb_set {t : Type} [Enc t] {r : Except Str t} {y : Str} (m : Bool) (C : Cxf X N sc) (i : Nat) (V : ∀ pn xe, Vs (X.tr pn xe) N sc i y) (he : ∀ (W : WX) pn xe, Takes (X.tr pn xe) W → ER (X.tr pn xe) W G e p r .frs) (hl : Nat.blt i G.length = true := by rfl)
    (hs : swapsWith e (some (.Name y ppos)) pos.line X.env = pure false := by rfl) : TB X G [.Assign [.Name y ppos] e pos] p r (fun x : t => G.set i (.val m (enc x))) := fun W pn xe tk => by
  obtain ⟨te, h1, h2⟩ := he W pn xe tk
  have C' := C.tr pn xe
  have V' := V pn xe
  have h := pss_cons (ps_set (X := X.tr pn xe) (i := i) (by rw [C'.hN]; exact C'.nd) (by rw [C'.hN]; exact V'.ix) (by rw [C'.hs]; exact V'.loc) h1 hs (by rw [C'.hs]; exact V'.fn)) (pss_nil (X := X.tr pn xe))
  refine ⟨fun pins s σ H D I hw => ?_⟩
  obtain ⟨F, Rl, hp, q⟩ := hw
  refine h.run pins s σ H D I (h2 σ H F _ Rl hp ?_)
  cases r with
  | error c => exact fun H' u hm s' => q H' u hm s'
  | ok x =>
    intro v H' fp s' rv kd
    cases m with
    | true =>
      obtain ⟨a1, a2⟩ := Rl.put (i := i) (m := true) s' rv (blt_lt hl) kd
      exact q _ H' _ a1 a2
    | false =>
      obtain ⟨a1, a2⟩ := Rl.put (i := i) (m := false) s' rv (blt_lt hl) (Rl.shrN (KdOk.shr_of kd))
      exact q _ H' _ a1 a2
/-! isinstance of what is caught -/
theorem ex_isE {x : Addr} {D A : Addr} {oe : Obj} {pn : List (Addr × Obj)} {y T : Str} {p1 p2 : Pos} {z : Bool} (C : Cx0 (X.suite x ((x, oe) :: pn)) N sc) (i : Nat) (V : Vr N sc i y) (h : G[i]? = some (.exc x)) (CC : ExcC X.K D) (hz : Zc (.ref D) none oe) (hf : ∃ vs, oe.data = .fields vs)
    (hg : sc.names.lookup ("isinstance" : Str) = some .globalImplicit) (hm : X.mg "isinstance" = none) (hgT : sc.names.lookup T = some .globalImplicit) (hT : X.mg T = some (.ref A)) (hk : PySem.W.kitOne X.K (.ref D) (.ref A) = some z) (hd : (T == ("__debug__" : Str)) = false := by decide)
    (hs : starEach [.Name y p1, .Name T p2] X.env = (false, eval (.Name y p1) X.env) :: starEach [.Name T p2] X.env := by rfl) (hpl : (backTo pos (starEach [.Name T p2] X.env)).any (·.1) = false := by rfl) :
    EX (X.suite x ((x, oe) :: pn)) G (.Call (.Name "isinstance" ppos) [.Name y p1, .Name T p2] [] pos) True z .frs := by
  refine ⟨_, pe_callB (X := X.suite x ((x, oe) :: pn)) (call_isE CC hz hf) (C.gl hg) hm PyProof.Rows.boot_isinstance (pa_cons (pe_slot C V) (pa_cons (pe_glob (C.gl hgT) hT (v := .ref A) rfl hd) pa_nil) hs) (by decide) (by decide) hs hpl, fun σ H F Q R _ q => ?_⟩
  refine ⟨_, R.ex i x h, ?_⟩
  refine ⟨.ref A, .ref A, z, rfl, fun u r => r, hk, ?_⟩
  exact q _ H [] (Same.refl _) (.bl z) KdOk.nil
theorem ex_isV {x : Addr} {D : Addr} {oe : Obj} {pn : List (Addr × Obj)} {y T : Str} {U : String} {p1 p2 : Pos} {z : Bool} (C : Cx0 (X.suite x ((x, oe) :: pn)) N sc) (i : Nat) (V : Vr N sc i y) (h : G[i]? = some (.exc x)) (CC : ExcC X.K D) (hz : Zc (.ref D) none oe) (hf : ∃ vs, oe.data = .fields vs)
    (hg : sc.names.lookup ("isinstance" : Str) = some .globalImplicit) (hm : X.mg "isinstance" = none) (hgT : sc.names.lookup T = some .globalImplicit) (hT : X.mg T = none) (hbT : bootBuiltins T = some (.type U)) (hk : PySem.W.kitOne X.K (.ref D) (.type U) = some z) (hn : T ≠ "__name__" := by decide) (hd : (T == ("__debug__" : Str)) = false := by decide)
    (hs : starEach [.Name y p1, .Name T p2] X.env = (false, eval (.Name y p1) X.env) :: starEach [.Name T p2] X.env := by rfl) (hpl : (backTo pos (starEach [.Name T p2] X.env)).any (·.1) = false := by rfl) :
    EX (X.suite x ((x, oe) :: pn)) G (.Call (.Name "isinstance" ppos) [.Name y p1, .Name T p2] [] pos) True z .frs := by
  refine ⟨_, pe_callB (X := X.suite x ((x, oe) :: pn)) (call_isE CC hz hf) (C.gl hg) hm PyProof.Rows.boot_isinstance (pa_cons (pe_slot C V) (pa_cons (pe_bltn (v := .ty U) (C.gl hgT) hT hbT rfl hn hd) pa_nil) hs) (by decide) (by decide) hs hpl, fun σ H F Q R _ q => ?_⟩
  refine ⟨_, R.ex i x h, ?_⟩
  refine ⟨.ty U, .type U, z, rfl, fun u r => r, hk, ?_⟩
  exact q _ H [] (Same.refl _) (.bl z) KdOk.nil
/-- what is known of the classes that may be raised, x the one that catches them, Ts those that are asked for -/
structure ExR (K : PySem.W.Frag) (mg : Str → Option Value) (L : List Str) (x : Str) (Ts : List Str) : Prop where
  cat : ∃ A : Addr, mg x = some (.ref A) ∧ ∀ c ∈ L, ∃ D : Addr, mg c = some (.ref D) ∧ ExcC K D ∧ PySem.W.exmOne K (.ref D) (.ref A) = some true
  kit : ∀ c ∈ L, ∀ D : Addr, mg c = some (.ref D) → ∀ T ∈ Ts, ∃ A : Addr, mg T = some (.ref A) ∧ PySem.W.kitOne K (.ref D) (.ref A) = some (decide (c = T))
  val : ∀ c ∈ L, ∀ D : Addr, mg c = some (.ref D) → PySem.W.kitOne K (.ref D) (.type "ValueError") = some true
/-- what the suite knows -/
structure Su (X : Cx) (L : List Str) (x : Addr) (oe : Obj) (c : Str) (D : Addr) : Prop where
  mem : c ∈ L
  mgc : X.mg c = some (.ref D)
  hz : Zc (.ref D) none oe
  hf : ∃ vs, oe.data = .fields vs
  CC : ExcC X.K D
theorem ex_isS {x : Addr} {D : Addr} {oe : Obj} {pn : List (Addr × Obj)} {y T c cat : Str} {L Ts : List Str} {p1 p2 : Pos} (C : Cx0 (X.suite x ((x, oe) :: pn)) N sc) (i : Nat) (V : Vr N sc i y) (E : ExR X.K X.mg L cat Ts) (S : Su X L x oe c D) (h : G[i]? = some (.exc x) := by rfl)
    (hg : sc.names.lookup ("isinstance" : Str) = some .globalImplicit) (hm : X.mg "isinstance" = none) (hgT : sc.names.lookup T = some .globalImplicit) (hT : T ∈ Ts := by decide) (hd : (T == ("__debug__" : Str)) = false := by decide)
    (hs : starEach [.Name y p1, .Name T p2] X.env = (false, eval (.Name y p1) X.env) :: starEach [.Name T p2] X.env := by rfl) (hpl : (backTo pos (starEach [.Name T p2] X.env)).any (·.1) = false := by rfl) :
    EX (X.suite x ((x, oe) :: pn)) G (.Call (.Name "isinstance" ppos) [.Name y p1, .Name T p2] [] pos) True (decide (c = T)) .frs := by
  obtain ⟨A, h1, h2⟩ := E.kit c S.mem D S.mgc T hT
  exact ex_isE C i V h S.CC S.hz S.hf hg hm hgT h1 h2 hd hs hpl
theorem ex_isSV {x : Addr} {D : Addr} {oe : Obj} {pn : List (Addr × Obj)} {y c cat : Str} {L Ts : List Str} {p1 p2 : Pos} (C : Cx0 (X.suite x ((x, oe) :: pn)) N sc) (i : Nat) (V : Vr N sc i y) (E : ExR X.K X.mg L cat Ts) (S : Su X L x oe c D) (h : G[i]? = some (.exc x) := by rfl)
    (hg : sc.names.lookup ("isinstance" : Str) = some .globalImplicit) (hm : X.mg "isinstance" = none) (hgT : sc.names.lookup ("ValueError" : Str) = some .globalImplicit) (hT : X.mg "ValueError" = none)
    (hs : starEach [.Name y p1, .Name "ValueError" p2] X.env = (false, eval (.Name y p1) X.env) :: starEach [.Name "ValueError" p2] X.env := by rfl) (hpl : (backTo pos (starEach [.Name "ValueError" p2] X.env)).any (·.1) = false := by rfl) :
    EX (X.suite x ((x, oe) :: pn)) G (.Call (.Name "isinstance" ppos) [.Name y p1, .Name "ValueError" p2] [] pos) True true .frs :=
  ex_isV (U := "ValueError") C i V h S.CC S.hz S.hf hg hm hgT hT (by decide +kernel) (E.val c S.mem D S.mgc) (by decide) (by decide) hs hpl
theorem Rel.setE {K : PySem.W.Frag} {σ : St} {H : Hp} {F : Nat → List Addr} {i : Nat} {x : Addr} (Rl : Rel K G σ H F) (hno : G[i]? = some .no) : Rel K (G.set i (.exc x)) (σ.set i (some (.ref x))) H F := by
  have hi : i < G.length := (List.getElem?_eq_some_iff.mp hno).1
  have key : ∀ {j : Nat} {m : Bool} {d : D}, (G.set i (.exc x))[j]? = some (.val m d) → j ≠ i ∧ G[j]? = some (.val m d) := fun {j m d} e => by
    by_cases hj : j = i
    · subst hj
      have q := set_eq e
      cases q
    · exact ⟨hj, set_ne hj e⟩
  refine ⟨by simp [Rl.len], fun j m d e => ?_, fun j d e => Rl.nd j d (key e).2, fun j j' d m d' n e e' => Rl.dj j j' d m d' n (key e).2 (key e').2, fun j z e => ?_⟩
  · obtain ⟨hj, e2⟩ := key e
    obtain ⟨v, h, r⟩ := Rl.rep j m d e2
    exact ⟨v, by rw [List.getElem?_set_ne (Ne.symm hj)]; exact h, r⟩
  · by_cases hj : j = i
    · subst hj
      have q := set_eq e
      injection q with q
      subst q
      rw [List.getElem?_set_self (by rw [Rl.len]; exact hi)]
    · rw [List.getElem?_set_ne (Ne.symm hj)]
      exact Rl.ex j z (set_ne hj e)
theorem Rel.unE {K : PySem.W.Frag} {σ : St} {H : Hp} {F : Nat → List Addr} {i : Nat} {x : Addr} (Rl : Rel K (G.set i (.exc x)) σ H F) (hno : G[i]? = some .no) : Rel K G (σ.set i none) H F := by
  have key : ∀ {j : Nat} {m : Bool} {d : D}, G[j]? = some (.val m d) → j ≠ i ∧ (G.set i (.exc x))[j]? = some (.val m d) := fun {j m d} e => by
    have hj : j ≠ i := fun z => by rw [z, hno] at e; cases e
    exact ⟨hj, by rw [List.getElem?_set_ne (Ne.symm hj)]; exact e⟩
  refine ⟨by have := Rl.len; simp at this ⊢; exact this, fun j m d e => ?_, fun j d e => Rl.nd j d (key e).2, fun j j' d m d' n e e' => Rl.dj j j' d m d' n (key e).2 (key e').2, fun j z e => ?_⟩
  · obtain ⟨hj, e2⟩ := key e
    obtain ⟨v, h, r⟩ := Rl.rep j m d e2
    exact ⟨v, by rw [List.getElem?_set_ne (Ne.symm hj)]; exact h, r⟩
  · have hj : j ≠ i := fun z => by rw [z, hno] at e; cases e
    rw [List.getElem?_set_ne (Ne.symm hj)]
    exact Rl.ex j z (by rw [List.getElem?_set_ne (Ne.symm hj)]; exact e)
theorem inO_setE {F : Nat → List Addr} {i : Nat} {x y : Addr} (hno : G[i]? = some .no) : InO (G.set i (.exc x)) F y ↔ InO G F y := by
  constructor
  · rintro ⟨j, d, e, h⟩
    by_cases hj : j = i
    · subst hj
      have q := set_eq e
      cases q
    · exact ⟨j, d, set_ne hj e, h⟩
  · rintro ⟨j, d, e, h⟩
    have hj : j ≠ i := fun z => by rw [z, hno] at e; cases e
    exact ⟨j, d, by rw [List.getElem?_set_ne (Ne.symm hj)]; exact e, h⟩
def ErrIn {T : Type} (L : List Str) : Except Str T → Prop
  | .ok _ => True
  | .error c => c ∈ L
def tryV {T : Type} (r : Except Str T) (f : Str → T) : T := match r with
  | .ok s => s
  | .error c => f c
def tsS (X : Cx) (G : Gam) (i : Nat) (L : List Str) {T : Type} (g : T → Gam) (fS : Str → T) : Addr → Value → Option Addr → TS := fun x cls d D σ H =>
  d = none ∧ ∃ (c : Str) (A : Addr) (F : Nat → List Addr), c ∈ L ∧ X.mg c = some (.ref A) ∧ cls = .ref A ∧ ExcC X.K A ∧ Rel X.K (G.set i (.exc x)) σ H F ∧
    ∀ σ' H' F', Rel X.K ((g (fS c)).set i (.exc x)) σ' H' F' → Frm (InO (G.set i (.exc x)) F) H (InO ((g (fS c)).set i (.exc x)) F') H' → D.nx σ' H'
theorem s1_tryAs {T : Type} {y x : Str} {L Ts : List Str} {body suite : List Stmt} {b0 : Stmt} {np pos' : Pos} {r : Except Str T} {g : T → Gam} {fS : Str → T} (C : Cxf X N sc) (hst : X.stack = X.env :: X.outer) (hfr : X.env.frame = some X.env.locals) (tk : Takes X W) (E : ExR X.K X.mg L x Ts)
    (i : Nat) (hb : TB X G body pb r g)
    (hsu : ∀ (x : Addr) (oe : Obj) (A : Addr) (pn : List (Addr × Obj)) (c : Str), Su X L x oe c A → SX (X.suite x ((x, oe) :: pn)) (fun _ _ _ _ => False) (G.set i (.exc x)) (b0 :: suite) True (fun s : T => (g s).set i (.exc x)) noG (.fall (fS c) : Out T Empty Unit))
    (hng : ∀ s, (g s)[i]? = some .no) (hno : G[i]? = some .no := by rfl) (hix : N[i]? = some y := by rfl) (hly : sc.names.lookup y = some .local := by rfl) (hgx : sc.names.lookup x = some .globalImplicit := by rfl) (hdx : (x == ("__debug__" : Str)) = false := by decide) :
    S1 X W G (.Try body [.ExceptHandler (some (.Name x np)) (some y) (b0 :: suite) pos'] [] [] pos) (pb ∧ ErrIn L r) g gb (.fall (tryV r fS) : Out T B R) := by
  obtain ⟨A, hA, hL⟩ := E.cat
  refine ⟨_, ps_try_as (i := i) (ts := tsS X G i L g fS) hst hfr (by rw [C.hN]; exact C.nd) (by rw [C.hN]; exact hix) (by show X.env.scope.names.lookup y = _; rw [C.hs]; exact hly) ⟨C.gl hgx, hdx, .inl hA⟩ tk (fun W' pn xe tk' _ => hb W' pn xe tk') (fun z oe cls d pn hz hf => ?_), fun σ H F D Rl hp k => ?_⟩
  · refine ⟨fun pins s σ H D I hw => ?_⟩
    obtain ⟨hd, c, Ad, F, hc, hm, hcls, CC, R', q⟩ := hw
    subst hd hcls
    obtain ⟨ts, t1, t2⟩ := hsu z oe Ad pn c ⟨hc, hm, hz, hf, CC⟩
    exact t1.run pins s σ H D I (t2 σ H F D R' trivial q)
  · refine ⟨F, Rl, hp.1, ?_⟩
    cases r with
    | ok s => exact k
    | error c =>
      intro H' u hm s'
      obtain ⟨Dc, h1, h2, h3⟩ := hL c hp.2
      have eu : u = .ref Dc := by rw [h1] at hm; exact (Option.some.inj hm).symm
      subst eu
      refine ⟨true, h3, fun _ z hz => ⟨rfl, c, Dc, F, hp.2, h1, rfl, h2, (Rl.same s').setE hno, fun σ2 H2 F2 R2 f2 => ?_⟩, nofun⟩
      refine k (σ2.set i none) H2 F2 (R2.unE (hng _)) fun b o hb hn => ?_
      obtain ⟨f3, f4⟩ := f2 b o (s' b o hb) fun z => hn ((inO_setE hno).mp z)
      exact ⟨f3, fun z => f4 ((inO_setE (hng _)).mpr z)⟩
theorem sx_sure {ss : List Stmt} {o : Out S B R} (h : SX X W G ss p g gb o) (hp : p) : SX X W G ss True g gb o := by
  obtain ⟨ts, h1, h2⟩ := h
  exact ⟨ts, h1, fun σ H F D Rl _ k => h2 σ H F D Rl hp k⟩
theorem tb_map {T U : Type} {body : List Stmt} {r : Except Str T} {g : T → Gam} {g2 : U → Gam} (f : T → U) (h : TB X G body p r g) (w : ∀ s, Wk (g s) (g2 (f s))) : TB X G body p (r.map f) g2 := fun W pn xe tk => by
  have h1 := h W pn xe tk
  refine ⟨fun pins s σ H D I hw => h1.run pins s σ H D I ?_⟩
  obtain ⟨F, Rl, hp, q⟩ := hw
  refine ⟨F, Rl, hp, ?_⟩
  cases r with
  | ok x => exact fun σ' H' F' R' f' => q σ' H' F' ((w x).rel R') (f'.trans (w x).frm)
  | error c => exact q
end
/-- the facts of the classes, looked at in the head -/
def excB (L : List Str) (x : Str) (Ts : List Str) (K : PySem.W.Frag) : Bool := L.all fun c =>
  (He.eqO (PySem.W.findIn K (.ref (He.ga K c)) "__getattribute__") (some (some (.builtin "BaseException.__getattribute__"))) && (He.eqO (PySem.W.findIn K (.ref (He.ga K c)) "__getattr__") (some none) &&
  (decide (PySem.W.subIn K (.ref (He.ga K c)) (.type "BaseException") = some true) && (PySem.W.hasDictIn K (He.ga K c) && (He.eqO (PySem.W.findIn K (.ref (He.ga K c)) "__class__") (some (some (.builtin "object.__class__"))) &&
  (He.eqO (PySem.W.specialIn K (.builtin "object.__class__") "__get__") (some (some (.builtin "getset_descriptor.__get__"))) && (decide (PySem.W.takesIn K (.builtin "object.__class__") = some true) && decide (PySem.W.mroIn K (He.ga K c) (.type "object") = some true)))))))) &&
  (decide (PySem.W.exmOne K (.ref (He.ga K c)) (.ref (He.ga K x)) = some true) && ((Ts.all fun T => decide (PySem.W.kitOne K (.ref (He.ga K c)) (.ref (He.ga K T)) = some (decide (c = T)))) && decide (PySem.W.kitOne K (.ref (He.ga K c)) (.type "ValueError") = some true)))
theorem exr_of {L Ts : List Str} {x : Str} {K : PySem.W.Frag} {mg : Str → Option Value} (h : excB L x Ts K = true) (gL : ∀ c ∈ L, mg c = some (.ref (He.ga K c))) (gx : mg x = some (.ref (He.ga K x))) (gT : ∀ T ∈ Ts, mg T = some (.ref (He.ga K T))) : ExR K mg L x Ts := by
  have key : ∀ c ∈ L, ExcC K (He.ga K c) ∧ PySem.W.exmOne K (.ref (He.ga K c)) (.ref (He.ga K x)) = some true ∧ (∀ T ∈ Ts, PySem.W.kitOne K (.ref (He.ga K c)) (.ref (He.ga K T)) = some (decide (c = T))) ∧ PySem.W.kitOne K (.ref (He.ga K c)) (.type "ValueError") = some true := fun c hc => by
    obtain ⟨a, b⟩ := He.ba (List.all_eq_true.mp h c hc)
    obtain ⟨a1, a⟩ := He.ba a
    obtain ⟨a2, a⟩ := He.ba a
    obtain ⟨a3, a⟩ := He.ba a
    obtain ⟨a4, a⟩ := He.ba a
    obtain ⟨a5, a⟩ := He.ba a
    obtain ⟨a6, a⟩ := He.ba a
    obtain ⟨a7, a8⟩ := He.ba a
    obtain ⟨b1, b⟩ := He.ba b
    obtain ⟨b2, b3⟩ := He.ba b
    exact ⟨⟨He.eqO_ok a1, He.eqO_ok a2, of_decide_eq_true a3, a4, He.eqO_ok a5, He.eqO_ok a6, of_decide_eq_true a7, of_decide_eq_true a8⟩, of_decide_eq_true b1, fun T hT => of_decide_eq_true (List.all_eq_true.mp b2 T hT), of_decide_eq_true b3⟩
  have same : ∀ c ∈ L, ∀ D : Addr, mg c = some (.ref D) → D = He.ga K c := fun c hc D hD => by
    rw [gL c hc] at hD
    injection hD with hD
    injection hD with hD
    exact hD.symm
  refine ⟨⟨_, gx, fun c hc => ⟨_, gL c hc, (key c hc).1, (key c hc).2.1⟩⟩, fun c hc D hD T hT => ⟨_, gT T hT, ?_⟩, fun c hc D hD => ?_⟩
  · rw [same c hc D hD]
    exact (key c hc).2.2.1 T hT
  · rw [same c hc D hD]
    exact (key c hc).2.2.2
end BW

set_option Elab.async false
set_option linter.all false
set_option maxRecDepth 100000
set_option maxHeartbeats 4000000
/-! range of three, zip. -/
namespace BW
open PySem L2
def n3 (lo hi st : Int) : Nat := (Builtin.Range.rangeSize lo hi st).toNat
def pyRange3 (lo hi st : Int) : List Int := (List.range (n3 lo hi st)).map fun (i : Nat) => lo + (i : Int) * st
def RgOk3 (lo hi st : Int) : Prop := RgC lo hi st (n3 lo hi st)
theorem pyRange3_len (lo hi st : Int) : (pyRange3 lo hi st).length = n3 lo hi st := by rw [pyRange3, List.length_map, List.length_range]
theorem pyRange3_get {lo hi st : Int} {i : Nat} (h : i < n3 lo hi st) : (pyRange3 lo hi st)[i]? = some (lo + (i : Int) * st) := by simp [pyRange3, h]
section
variable {X : Cx} {G : Gam} {N : List Str} {sc : Scope} {e a b c : Expr} {es : List Expr} {p pa pb pr q : Prop} {pos ppos : Pos}
theorem ax3 {t u v : Type} [Enc t] [Enc u] [Enc v] {x : t} {y : u} {z : v} {k : Kd} {pc p1 : Prop} (ha : EX X G a pa x k) (hb : EX X G b pb y k) (hc : EX X G c pc z k) (c1 : Cmb pb pc p1) (c2 : Cmb pa p1 p) (hs : starEach [a, b, c] X.env = (false, eval a X.env) :: starEach [b, c] X.env := by rfl) (hs2 : starEach [b, c] X.env = (false, eval b X.env) :: starEach [c] X.env := by rfl) (hs3 : starEach [c] X.env = (false, eval c X.env) :: starEach [] X.env := by rfl) :
    AX X G [a, b, c] p [enc x, enc y, enc z] k := ax_cons ha (ax_cons hb (ax_cons hc ax_nil (.l _) hs3) (by cases c1 <;> constructor) hs2) c2 hs
theorem ix_range3 {tg : Expr} {lo hi st : Int} {ka kb kc : Kd} {pc : Prop} (C : Cxf X N sc) (hg : sc.names.lookup ("range" : Str) = some .globalImplicit) (hm : X.mg "range" = none) (ha : EX X G a pa lo ka) (hb : EX X G b pb hi kb) (hc : EX X G c pc st kc) {p1 p2 : Prop} (c1 : Cmb pa pb p1) (c2 : Cmb p1 pc p2) (c3 : Cmb p2 (RgOk3 lo hi st) p)
    (hs : starEach [a, b, c] X.env = (false, eval a X.env) :: starEach [b, c] X.env := by rfl) (hs2 : starEach [b, c] X.env = (false, eval b X.env) :: starEach [c] X.env := by rfl) (hs3 : starEach [c] X.env = (false, eval c X.env) :: starEach [] X.env := by rfl) (hpl : (backTo pos (starEach [b, c] X.env)).any (·.1) = false := by rfl) :
    IX X G tg (.Call (.Name "range" ppos) [a, b, c] [] pos) p (pyRange3 lo hi st) := by
  obtain ⟨ta, a1, a2⟩ := ha
  obtain ⟨tb, b1, b2⟩ := hb
  obtain ⟨tc, c1', c2'⟩ := hc
  refine ⟨_, pi_range3 (C.gl hg) hm (pa_cons a1 (pa_cons b1 (pa_cons c1' pa_nil hs3) hs2) hs) hs hpl, fun σ H F R Rl hp k => ?_⟩
  obtain ⟨hp2, hpr⟩ := c3.out hp
  obtain ⟨hp1, hpc⟩ := c2.out hp2
  obtain ⟨hpa, hpb⟩ := c1.out hp1
  refine a2 σ H F _ Rl hpa fun v1 H1 f1 s1 r1 _ => ?_
  refine b2 σ H1 F _ (Rl.same s1) hpb fun v2 H2 f2 s2 r2 _ => ?_
  refine c2' σ H2 F _ (Rl.same (s1.trans s2)) hpc fun v3 H3 f3 s3 r3 _ => ?_
  obtain ⟨rfl, _⟩ := r1.int_inv
  obtain ⟨rfl, _⟩ := r2.int_inv
  obtain ⟨rfl, _⟩ := r3.int_inv
  refine ⟨lo, hi, st, n3 lo hi st, rfl, hpr, k _ H3 [] (fun _ => True) (s1.trans (s2.trans s3)) (fun _ h => nomatch h) (fun _ h => nomatch h) (fun _ _ _ _ _ _ _ _ => ⟨trivial, (fun _ h => nomatch h)⟩) trivial ?_⟩
  rw [pyRange3_len]
  exact (walk_rangeC (lo := lo) (c := st) (n := n3 lo hi st)).mono (fun _ h => h) fun i H x H' hi' _ y => by
    obtain ⟨e1, e2⟩ := y
    subst e1 e2
    exact ⟨Same.refl _, [], _, pyRange3_get hi', .int _, fun _ h => nomatch h⟩
theorem ix_zip {t u : Type} [Enc t] [Enc u] {xs : List t} {ys : List u} {elts : List Expr} {kk : Nat} {tpos : Pos} (C : Cxf X N sc) (hg : sc.names.lookup ("zip" : Str) = some .globalImplicit) (hm : X.mg "zip" = none) (ha : EX X G a pa xs .shr) (hb : EX X G b pb ys .shr) (c1 : Cmb pa pb p)
    (hs : starEach [a, b] X.env = (false, eval a X.env) :: starEach [b] X.env := by rfl) (hs2 : starEach [b] X.env = (false, eval b X.env) :: starEach [] X.env := by rfl) (hpl : (backTo pos (starEach [b] X.env)).any (·.1) = false := by rfl) :
    IX X G (.Tuple elts kk tpos) (.Call (.Name "zip" ppos) [a, b] [] pos) p (xs.zip ys) := by
  obtain ⟨ta, a1, a2⟩ := ha
  obtain ⟨tb, b1, b2⟩ := hb
  refine ⟨_, pi_zip (C.gl hg) hm (pa_cons a1 (pa_cons b1 pa_nil hs2) hs) hs hpl, fun σ H F R Rl hp k => ?_⟩
  obtain ⟨hpa, hpb⟩ := c1.out hp
  refine a2 σ H F _ Rl hpa fun v1 H1 f1 s1 r1 k1 => ?_
  refine b2 σ H1 F _ (Rl.same s1) hpb fun v2 H2 f2 s2 r2 k2 => ?_
  have r1' := r1.same s2
  obtain ⟨l, ws, fp', rfl, h1, rs, e⟩ := r1'.lst_inv'
  obtain ⟨m, us, gp', rfl, h2, qs, e'⟩ := r2.lst_inv'
  refine ⟨l, m, ws, us, rfl, SqL.of h1, SqL.of h2, k _ H2 (f1 ++ f2) (fun H => Rep X.K H f1 (.ref l) (enc xs) ∧ Rep X.K H f2 (.ref m) (enc ys)) (s1.trans s2) (fun z hz => ?_) (fun z hz => ?_) ?_ ⟨r1', r2⟩ ?_⟩
  · rcases List.mem_append.mp hz with z1 | z1
    · exact k1 z z1
    · exact (k2 z z1).imp s1.free id
  · rcases List.mem_append.mp hz with z1 | z1
    · exact r1'.there z1
    · exact r2.there z1
  · intro O H O' H' f l' n r
    obtain ⟨g1, g2⟩ := Rep.frm f l' r.1 fun a ha => n a (List.mem_append_left _ ha)
    obtain ⟨g3, g4⟩ := Rep.frm f l' r.2 fun a ha => n a (List.mem_append_right _ ha)
    exact ⟨⟨g1, g3⟩, fun a ha => (List.mem_append.mp ha).elim (g2 a) (g4 a)⟩
  · have hlz : (xs.zip ys).length = min xs.length ys.length := List.length_zip ..
    refine ⟨fun i H hi g => ?_, fun H g => ?_, fun i H x H' hi g y => ?_⟩
    all_goals
      obtain ⟨ga, gb⟩ := g
      obtain ⟨l', vs', f', e1, h1', rs', ef⟩ := ga.lst_inv'
      injection e1 with e1
      subst e1
      obtain ⟨m', us', g', e2, h2', qs', eg⟩ := gb.lst_inv'
      injection e2 with e2
      subst e2
      have hl := rs'.length
      have hm' := qs'.length
      rw [List.length_map] at hl hm'
      have w := walk_zip (K := X.K) (a := l) (b := m) (xs := vs') (ys := us') (n := (xs.zip ys).length) (by rw [hlz, hl, hm'])
    · exact w.goes i H hi ⟨SqL.of h1', SqL.of h2'⟩
    · exact w.stops H ⟨SqL.of h1', SqL.of h2'⟩
    · obtain ⟨T, x1, x2, e3, hn, e4, e5, e6⟩ := w.yields i H x H' hi ⟨SqL.of h1', SqL.of h2'⟩ y
      subst e3 e4
      have hi1 : i < xs.length := by omega
      have hi2 : i < ys.length := by omega
      obtain ⟨v, fv, e7, rv, sv, _⟩ := rs'.get (i := i) (d := enc xs[i]) (by simp [hi1])
      obtain ⟨w2, fw, e8, rw', sw, _⟩ := qs'.get (i := i) (d := enc ys[i]) (by simp [hi2])
      have e5 : vs'[i]? = some x1 := e5
      have e6 : us'[i]? = some x2 := e6
      rw [e5] at e7
      rw [e6] at e8
      have e7 := Option.some.inj e7
      have e8 := Option.some.inj e8
      subst e7 e8
      refine ⟨Same.upd hn, fv ++ fw, (xs[i], ys[i]), by simp [List.getElem?_zip_eq_some, hi1, hi2], ?_, fun a ha => ?_⟩
      · have rt := Reps.cons rv (.cons rw' .nil)
        rw [List.append_nil] at rt
        exact .tup (SqT.of upd_same) (rt.same (Same.upd hn))
      · rw [ef, eg]
        rcases List.mem_append.mp ha with z | z
        · exact List.mem_append_left _ (List.mem_cons_of_mem _ (sv a z))
        · exact List.mem_append_right _ (List.mem_cons_of_mem _ (sw a z))
end
end BW

set_option Elab.async false
set_option linter.all false
set_option maxRecDepth 100000
set_option maxHeartbeats 4000000
/-! Objects in slots: their fields read and written. -/
namespace BW
open PySem L2

/-- a class's data -/
class Obj (S : Type) where
  cls : Str
  ks : List Str
  ds : S → List D
abbrev objD (w : Option Addr) {S : Type} [Obj S] (s : S) : D := .obj w (Obj.cls S) (Obj.ks S) (Obj.ds s)
instance {S : Type} [Obj S] : Enc S := ⟨fun s => objD none s⟩
def idx : List Str → Str → Option Nat
  | [], _ => none
  | k :: r, f => if f = k then some 0 else (idx r f).map (· + 1)
theorem lookup_zip {f : Str} : ∀ {ks : List Str} {vs : List V} {j : Nat} {v : V}, idx ks f = some j → vs[j]? = some v → (ks.zip vs).lookup f = some v
  | [], _, _, _, h, _ => by cases h
  | k :: r, [], j, v, _, h => by simp at h
  | k :: r, u :: vs, j, v, h, hv => by
    unfold idx at h
    show (match f == k with | true => some u | false => (r.zip vs).lookup f) = some v
    by_cases e : f = k
    · rw [if_pos e] at h
      cases h
      have eb : (f == k) = true := beq_iff_eq.mpr e
      rw [eb]
      simpa using hv
    · rw [if_neg e] at h
      have eb : (f == k) = false := by rw [← Bool.not_eq_true]; intro z; exact e (beq_iff_eq.mp z)
      rw [eb]
      cases q : idx r f with
      | none => rw [q] at h; cases h
      | some i =>
        rw [q] at h
        cases h
        exact lookup_zip q (by simpa using hv)
theorem lookup_zipN {f : Str} : ∀ {ks : List Str} {vs : List V}, idx ks f = none → (ks.zip vs).lookup f = none
  | [], _, _ => rfl
  | k :: r, [], _ => rfl
  | k :: r, u :: vs, h => by
    unfold idx at h
    show (match f == k with | true => some u | false => (r.zip vs).lookup f) = none
    by_cases e : f = k
    · rw [if_pos e] at h; cases h
    · rw [if_neg e] at h
      have eb : (f == k) = false := by rw [← Bool.not_eq_true]; intro z; exact e (beq_iff_eq.mp z)
      rw [eb]
      cases q : idx r f with
      | none => exact lookup_zipN q
      | some i => rw [q] at h; cases h
theorem putF_zip {f : Str} {v : V} : ∀ {ks : List Str} {vs : List V} {j : Nat}, idx ks f = some j → ks.length = vs.length → putF f v (ks.zip vs) = ks.zip (vs.set j v)
  | [], _, _, h, _ => by cases h
  | k :: r, [], j, _, h => by cases h
  | k :: r, u :: vs, j, h, hl => by
    unfold idx at h
    show (if k = f then (k, v) :: r.zip vs else (k, u) :: putF f v (r.zip vs)) = _
    by_cases e : f = k
    · rw [if_pos e] at h
      cases h
      rw [if_pos e.symm]
      rfl
    · rw [if_neg e] at h
      rw [if_neg (fun z => e z.symm)]
      cases q : idx r f with
      | none => rw [q] at h; cases h
      | some i =>
        rw [q] at h
        cases h
        rw [putF_zip q (by simpa using hl)]
        rfl
theorem putF_new {f : Str} {v : V} : ∀ {ks : List Str} {vs : List V}, idx ks f = none → ks.length = vs.length → putF f v (ks.zip vs) = (ks ++ [f]).zip (vs ++ [v])
  | [], [], _, _ => rfl
  | k :: r, u :: vs, h, hl => by
    unfold idx at h
    show (if k = f then (k, v) :: r.zip vs else (k, u) :: putF f v (r.zip vs)) = _
    by_cases e : f = k
    · rw [if_pos e] at h; cases h
    · rw [if_neg e] at h
      rw [if_neg (fun z => e z.symm)]
      cases q : idx r f with
      | none => rw [putF_new q (by simpa using hl)]; rfl
      | some i => rw [q] at h; cases h
section
variable {K : PySem.W.Frag} {H : Hp}
theorem Reps.set {w : V} {d : D} {fq : List Addr} : ∀ {ds : List D} {fp : List Addr} {vs : List V} (j : Nat), Reps K H fp vs ds → Rep K H fq w d → ∃ fp', Reps K H fp' (vs.set j w) (ds.set j d) ∧ (∀ a ∈ fp', a ∈ fp ∨ a ∈ fq) ∧ (fp.Nodup → fq.Nodup → (∀ a ∈ fq, a ∉ fp) → fp'.Nodup)
  | [], _, _, j, r, _ => by
    cases r
    exact ⟨[], .nil, (fun a h => nomatch h), fun _ _ _ => List.nodup_nil⟩
  | d' :: ds, _, _, 0, r, q => by
    cases r with
    | cons h r =>
      rename_i f1 f2 u us
      exact ⟨fq ++ f2, .cons q r, fun a ha => (List.mem_append.mp ha).elim .inr fun z => .inl (List.mem_append_right _ z), fun n1 n2 n3 => List.nodup_append.mpr ⟨n2, (List.nodup_append.mp n1).2.1, fun a ha b hb e => n3 a ha (List.mem_append_right _ (e ▸ hb))⟩⟩
  | d' :: ds, _, _, j + 1, r, q => by
    cases r with
    | cons h r =>
      rename_i f1 f2 u us
      obtain ⟨f3, r3, s3, n3⟩ := Reps.set j r q
      refine ⟨f1 ++ f3, .cons h r3, fun a ha => ?_, fun n1 n2 n4 => ?_⟩
      · rcases List.mem_append.mp ha with z | z
        · exact .inl (List.mem_append_left _ z)
        · exact (s3 a z).imp (List.mem_append_right _) id
      · obtain ⟨m1, m2, m3⟩ := List.nodup_append.mp n1
        refine List.nodup_append.mpr ⟨m1, n3 m2 n2 fun a ha z => n4 a ha (List.mem_append_right _ z), fun a ha b hb e => ?_⟩
        rcases s3 b hb with z | z
        · exact m3 a ha b z e
        · exact n4 b z (List.mem_append_left _ (e ▸ ha))
end
section
variable {K : PySem.W.Frag} {G : Gam} {σ : St} {H H' : Hp} {F : Nat → List Addr}
/-- what an owned slot holds is changed in place -/
theorem Rel.mut {i : Nat} {d d' : D} {v : V} {fp' : List Addr} (R : Rel K G σ H F) (hi : G[i]? = some (.val true d)) (hv : σ[i]? = some (some v)) (r' : Rep K H' fp' v d') (nd : fp'.Nodup) (f : Frm (· ∈ F i) H (· ∈ fp') H') (new : ∀ a ∈ fp', a ∈ F i ∨ H a = none) :
    Rel K (G.set i (.val true d')) σ H' (updF F i fp') ∧ Frm (InO G F) H (InO (G.set i (.val true d')) (updF F i fp')) H' := by
  have hiL : i < G.length := (List.getElem?_eq_some_iff.mp hi).1
  have lf : Lsts H (· ∈ F i) := fun a ha => R.lsts a ⟨i, d, hi, ha⟩
  have other : ∀ (j : Nat) m dj, j ≠ i → G[j]? = some (.val m dj) → ∃ u, σ[j]? = some (some u) ∧ Rep K H' (F j) u dj ∧ ∀ a ∈ F j, a ∉ fp' := fun j m dj hj e => by
    obtain ⟨u, hu, rj⟩ := R.rep j m dj e
    obtain ⟨q1, q2⟩ := Rep.frm f lf rj fun a ha z => R.dj i j d m dj (Ne.symm hj) hi e a z ha
    exact ⟨u, hu, q1, q2⟩
  refine ⟨⟨by simp [R.len], fun j m dj e => ?_, fun j dj e => ?_, fun j j' dj m' dj' n e e' => ?_, fun j a e => ?_⟩, fun b o h n => ?_⟩
  · by_cases hj : j = i
    · subst hj
      have q := set_eq e
      injection q with q1 q2
      subst q1 q2
      rw [updF_same]
      exact ⟨v, hv, r'⟩
    · rw [updF_ne hj]
      obtain ⟨u, hu, q, _⟩ := other j m dj hj (set_ne hj e)
      exact ⟨u, hu, q⟩
  · by_cases hj : j = i
    · subst hj; rw [updF_same]; exact nd
    · rw [updF_ne hj]; exact R.nd j dj (set_ne hj e)
  · by_cases hj : j = i
    · subst hj
      rw [updF_same, updF_ne (Ne.symm n)]
      obtain ⟨_, _, _, q⟩ := other j' m' dj' (Ne.symm n) (set_ne (Ne.symm n) e')
      exact fun a ha z => q a z ha
    · by_cases hj' : j' = i
      · subst hj'
        rw [updF_same, updF_ne n]
        obtain ⟨_, _, _, q⟩ := other j true dj n (set_ne n e)
        exact q
      · rw [updF_ne hj, updF_ne hj']
        exact R.dj j j' dj m' dj' n (set_ne hj e) (set_ne hj' e')
  · by_cases hj : j = i
    · subst hj
      have q := set_eq e
      cases q
    · exact R.ex j a (set_ne hj e)
  · obtain ⟨f1, f2⟩ := f b o h fun z => n ⟨i, d, hi, z⟩
    refine ⟨f1, ?_⟩
    rintro ⟨j, dj, e, hb⟩
    by_cases hj : j = i
    · subst hj
      rw [updF_same] at hb
      exact f2 hb
    · rw [updF_ne hj] at hb
      exact n ⟨j, dj, set_ne hj e, hb⟩
end
section
variable {X : Cx} {G : Gam} {N : List Str} {sc : Scope} {e a b c : Expr} {es : List Expr} {p pa pb pr q : Prop} {pos ppos fpos : Pos}
variable {W : WX} {S B R : Type} [Ret R] {g : S → Gam} {gb : B → Gam} {rest : List Stmt} {cls : Str} {ks : List Str} {ds : List D} {w : Option Addr}
theorem pe_fld0 (C : Cx0 X N sc) {i : Nat} {y f : Str} (V : Vr N sc i y) : PE X (.Attribute (.Name y ppos) f fpos) (tFld X.K (tVar i) f) := pe_fld (pe_slot C V) rfl
/-- a field read -/
theorem ex_fld (C : Cx0 X N sc) {t : Type} [Enc t] {x : t} {y f : Str} (i : Nat) (V : Vr N sc i y) (j : Nat) (kc : Cls X.K (He.ga X.K cls)) (na : NoAttr X.K (He.ga X.K cls) f) {m : Bool} (h : G[i]? = some (.val m (.obj w cls ks ds)) := by rfl) (hj : idx ks f = some j := by rfl) (hx : ds[j]? = some (enc x) := by rfl) :
    EX X G (.Attribute (.Name y ppos) f fpos) True x .any := by
  refine ⟨_, pe_fld0 C V, fun σ H F Q R _ k => ?_⟩
  obtain ⟨v, e, r⟩ := R.rep i _ _ h
  obtain ⟨a, dx, vs, fp', rfl, _, hH, hl, rs, _⟩ := r.obj_inv
  obtain ⟨u, fu, e1, ru, _, _⟩ := rs.get hx
  exact ⟨_, e, a, _, dx, _, u, rfl, hH, kc, na, lookup_zip hj e1, k u H fu (Same.refl _) ru trivial⟩
theorem ex_fldS (C : Cx0 X N sc) {t : Type} [Enc t] {x : t} {y f : Str} (i : Nat) (V : Vr N sc i y) (j : Nat) (kc : Cls X.K (He.ga X.K cls)) (na : NoAttr X.K (He.ga X.K cls) f) (h : G[i]? = some (.val false (.obj w cls ks ds)) := by rfl) (hj : idx ks f = some j := by rfl) (hx : ds[j]? = some (enc x) := by rfl) :
    EX X G (.Attribute (.Name y ppos) f fpos) True x .shr := by
  refine ⟨_, pe_fld0 C V, fun σ H F Q R _ k => ?_⟩
  obtain ⟨v, e, r⟩ := R.rep i _ _ h
  obtain ⟨a, dx, vs, fp', rfl, _, hH, hl, rs, eF⟩ := r.obj_inv
  obtain ⟨u, fu, e1, ru, su, _⟩ := rs.get hx
  exact ⟨_, e, a, _, dx, _, u, rfl, hH, kc, na, lookup_zip hj e1, k u H fu (Same.refl _) ru fun b hb => .inr ⟨i, _, h, by rw [eF]; exact List.mem_cons_of_mem _ (su b hb)⟩⟩
/-- what comes of a field that is put -/
theorem rel_put {K : PySem.W.Frag} {σ : St} {H H1 : Hp} {F : Nat → List Addr} {i : Nat} {f : Str} {j : Nat} {d : D} {v : V} {fq : List Addr} {a dx : Addr} {fs : List (Str × V)} (R : Rel K G σ H F) (h : G[i]? = some (.val true (.obj w cls ks ds))) (hs : σ[i]? = some (some (.ref a))) (hH : H a = some (.ins (He.ga K cls) dx fs))
    (hj : idx ks f = some j) (s1 : Same H H1) (r1 : Rep K H1 fq v d) (k1 : fq.Nodup ∧ ∀ a ∈ fq, H a = none) :
    ∃ F', Rel K (G.set i (.val true (.obj w cls ks (ds.set j d)))) σ (upd H1 a (.ins (He.ga K cls) dx (putF f v fs))) F' ∧ Frm (InO G F) H (InO (G.set i (.val true (.obj w cls ks (ds.set j d)))) F') (upd H1 a (.ins (He.ga K cls) dx (putF f v fs))) := by
  obtain ⟨v0, e0, r0⟩ := R.rep i _ _ h
  rw [hs] at e0
  obtain rfl := Option.some.inj (Option.some.inj e0)
  obtain ⟨a', dx', vs, fp', e1, hw, hH', hl, rs, eF⟩ := r0.obj_inv
  obtain rfl : a = a' := by injection e1
  rw [hH'] at hH
  obtain ⟨rfl, rfl⟩ : dx' = dx ∧ ks.zip vs = fs := by
    have := Option.some.inj hH
    injection this with _ q2 q3
    exact ⟨q2, q3⟩
  have hnd := R.nd i _ h
  rw [eF] at hnd
  obtain ⟨n1, n2⟩ := List.nodup_cons.mp hnd
  have hq : ∀ b ∈ fq, b ∉ fp' := fun b hb z => rs.there z (k1.2 b hb)
  have ha : a ∉ fq := fun z => by rw [k1.2 a z] at hH'; cases hH'
  obtain ⟨f2, r2, s2, m2⟩ := Reps.set j (rs.same s1) r1
  have hl2 : ks.length = vs.length := by rw [hl, rs.length]
  have ha2 : a ∉ f2 := fun z => (s2 a z).elim n1 ha
  rw [putF_zip hj hl2]
  have r3 : Rep K (upd H1 a (.ins (He.ga K cls) dx' (ks.zip (vs.set j v)))) (a :: f2) (.ref a) (.obj w cls ks (ds.set j d)) :=
    .obj hw upd_same (by rw [List.length_set]; exact hl) (r2.updO (s1 _ _ hH') (.ins _ _ _) ha2)
  refine ⟨_, R.mut h hs r3 (List.nodup_cons.mpr ⟨ha2, m2 n2 k1.1 hq⟩) (fun b o hb n => ?_) fun b hb => ?_⟩
  · rw [eF] at n
    have hne : b ≠ a := fun z => n (by rw [z]; exact List.mem_cons_self)
    refine ⟨by rw [upd_ne hne]; exact s1 _ _ hb, fun z => ?_⟩
    rcases List.mem_cons.mp z with z | z
    · exact hne z
    · rcases s2 b z with z | z
      · exact n (List.mem_cons_of_mem _ z)
      · rw [k1.2 b z] at hb; cases hb
  · rw [eF]
    rcases List.mem_cons.mp hb with z | z
    · exact .inl (by rw [z]; exact List.mem_cons_self)
    · exact (s2 b z).imp (List.mem_cons_of_mem _) (k1.2 b)
/-- a field set -/
theorem sx_fld (C : Cx0 X N sc) {t : Type} [Enc t] {x : t} {y f : Str} {pR : Prop} {oR : Out S B R} (i : Nat) (V : Vr N sc i y) (j : Nat) (kc : Cls X.K (He.ga X.K cls)) (na : NoAttr X.K (He.ga X.K cls) f) (he : EX X G e pa x .frs)
    (hR : SX X W (G.set i (.val true (.obj w cls ks (ds.set j (enc x))))) rest pR g gb oR) (c1 : Cmb pa pR p) (h : G[i]? = some (.val true (.obj w cls ks ds)) := by rfl) (hj : idx ks f = some j := by rfl) (hk : Nat.blt ks.length 1000 = true := by rfl)
    (hs : swapsWith e (some (.Attribute (.Name y ppos) f fpos)) pos.line X.env = pure false := by rfl) : SX X W G (.Assign [.Attribute (.Name y ppos) f fpos] e pos :: rest) p g gb oR := by
  obtain ⟨te, h1, h2⟩ := he
  obtain ⟨ts, r1, r2⟩ := hR
  refine ⟨_, pss_cons (ps_fld (pe_slot C V) h1 hs) r1, fun σ H F D Rl hp k => ?_⟩
  obtain ⟨hpa, hpR⟩ := c1.out hp
  refine h2 σ H F _ Rl hpa fun v H1 fq s1 rv kd => ?_
  obtain ⟨v0, e0, r0⟩ := Rl.rep i _ _ h
  obtain ⟨a, dx, vs, fp', rfl, hw, hH, hl, rs, eF⟩ := r0.obj_inv
  obtain ⟨F', q1, q2⟩ := rel_put Rl h e0 hH hj s1 rv kd
  have hlen : (ks.zip vs).length < 1000 := by
    rw [List.length_zip, hl, rs.length, Nat.min_self, ← hl]
    exact Nat.blt_eq.mp hk
  exact ⟨_, e0, a, _, dx, _, rfl, s1 _ _ hH, kc, na, hlen, r2 _ _ _ D q1 hpR (k.of q2)⟩
/-- a field set for the first time -/
theorem sx_fldN (C : Cx0 X N sc) {t : Type} [Enc t] {x : t} {y f : Str} {pR : Prop} {oR : Out S B R} (i : Nat) (V : Vr N sc i y) (kc : Cls X.K (He.ga X.K cls)) (na : NoAttr X.K (He.ga X.K cls) f) (he : EX X G e pa x .frs)
    (hR : SX X W (G.set i (.val true (.obj w cls (ks ++ [f]) (ds ++ [enc x])))) rest pR g gb oR) (c1 : Cmb pa pR p) (h : G[i]? = some (.val true (.obj w cls ks ds)) := by rfl) (hj : idx ks f = none := by rfl) (hk : Nat.blt ks.length 1000 = true := by rfl)
    (hs : swapsWith e (some (.Attribute (.Name y ppos) f fpos)) pos.line X.env = pure false := by rfl) : SX X W G (.Assign [.Attribute (.Name y ppos) f fpos] e pos :: rest) p g gb oR := by
  obtain ⟨te, h1, h2⟩ := he
  obtain ⟨ts, r1, r2⟩ := hR
  refine ⟨_, pss_cons (ps_fld (pe_slot C V) h1 hs) r1, fun σ H F D Rl hp k => ?_⟩
  obtain ⟨hpa, hpR⟩ := c1.out hp
  refine h2 σ H F _ Rl hpa fun v H1 fq s1 rv kd => ?_
  obtain ⟨v0, e0, r0⟩ := Rl.rep i _ _ h
  obtain ⟨a, dx, vs, fp', rfl, hw, hH, hl, rs, eF⟩ := r0.obj_inv
  have hl2 : ks.length = vs.length := by rw [hl, rs.length]
  have hlen : (ks.zip vs).length < 1000 := by
    rw [List.length_zip, ← hl2, Nat.min_self]
    exact Nat.blt_eq.mp hk
  refine ⟨_, e0, a, _, dx, _, rfl, s1 _ _ hH, kc, na, hlen, ?_⟩
  rw [putF_new hj hl2]
  have hnd := Rl.nd i _ h
  rw [eF] at hnd
  obtain ⟨n1, n2⟩ := List.nodup_cons.mp hnd
  have ha : a ∉ fq := fun z => by rw [kd.2 a z] at hH; cases hH
  have ha2 : a ∉ fp' ++ fq := fun z => (List.mem_append.mp z).elim n1 ha
  have rb := Reps.cons rv .nil
  rw [List.append_nil] at rb
  have r3 : Rep X.K (upd H1 a (.ins (He.ga X.K cls) dx ((ks ++ [f]).zip (vs ++ [v])))) (a :: (fp' ++ fq)) (.ref a) (.obj w cls (ks ++ [f]) (ds ++ [enc x])) :=
    .obj hw upd_same (by rw [List.length_append, List.length_append, hl]; rfl) (((rs.same s1).append rb).updO (s1 _ _ hH) (.ins _ _ _) ha2)
  have hf : Frm (· ∈ F i) H (· ∈ (a :: (fp' ++ fq))) (upd H1 a (.ins (He.ga X.K cls) dx ((ks ++ [f]).zip (vs ++ [v])))) := fun b o hb n => by
    rw [eF] at n
    have hne : b ≠ a := fun z => n (by rw [z]; exact List.mem_cons_self)
    refine ⟨by rw [upd_ne hne]; exact s1 _ _ hb, fun z => ?_⟩
    rcases List.mem_cons.mp z with z | z
    · exact hne z
    · rcases List.mem_append.mp z with z | z
      · exact n (List.mem_cons_of_mem _ z)
      · rw [kd.2 b z] at hb; cases hb
  have hn : ∀ b ∈ (a :: (fp' ++ fq)), b ∈ F i ∨ H b = none := fun b hb => by
    rw [eF]
    rcases List.mem_cons.mp hb with z | z
    · exact .inl (by rw [z]; exact List.mem_cons_self)
    · exact (List.mem_append.mp z).imp (List.mem_cons_of_mem _) (kd.2 b)
  obtain ⟨q1, q2⟩ := Rl.mut h e0 r3 (List.nodup_cons.mpr ⟨ha2, List.nodup_append.mpr ⟨n2, kd.1, fun b hb c hc e => rs.there hb (kd.2 b (e ▸ hc))⟩⟩) hf hn
  exact r2 _ _ _ D q1 hpR (k.of q2)
/-- a number in a field grows -/
theorem sx_fldAug (C : Cx0 X N sc) {x z : Int} {kx : Kd} {y f : Str} {pR : Prop} {oR : Out S B R} (i : Nat) (V : Vr N sc i y) (j : Nat) (kc : Cls X.K (He.ga X.K cls)) (na : NoAttr X.K (He.ga X.K cls) f) (he : EX X G e pa z kx)
    (hR : SX X W (G.set i (.val true (.obj w cls ks (ds.set j (enc (x + z)))))) rest pR g gb oR) (c1 : Cmb pa pR p) (h : G[i]? = some (.val true (.obj w cls ks ds)) := by rfl) (hj : idx ks f = some j := by rfl) (hx : ds[j]? = some (enc x) := by rfl) (hk : Nat.blt ks.length 1000 = true := by rfl) :
    SX X W G (.AugAssign (.Attribute (.Name y ppos) f fpos) .Add e pos :: rest) p g gb oR := by
  obtain ⟨te, h1, h2⟩ := he.flt
  obtain ⟨ts, r1, r2⟩ := hR
  refine ⟨_, pss_cons (ps_fldaug (pe_slot C V) h1 in_add) r1, fun σ H F D Rl hp k => ?_⟩
  obtain ⟨hpa, hpR⟩ := c1.out hp
  obtain ⟨v0, e0, r0⟩ := Rl.rep i _ _ h
  obtain ⟨a, dx, vs, fp', rfl, hw, hH, hl, rs, eF⟩ := r0.obj_inv
  obtain ⟨u, fu, e1, ru, su, _⟩ := rs.get hx
  obtain ⟨rfl, _⟩ := ru.int_inv
  refine ⟨_, e0, a, _, dx, _, _, rfl, hH, kc, na, lookup_zip hj e1, h2 σ H F _ Rl hpa fun v H1 fq s1 rv kd => ?_⟩
  obtain ⟨rfl, rfl⟩ := rv.int_inv
  have hlen : (ks.zip vs).length < 1000 := by
    rw [List.length_zip, hl, rs.length, Nat.min_self, ← hl]
    exact Nat.blt_eq.mp hk
  obtain ⟨F', q1, q2⟩ := rel_put (d := enc (x + z)) (v := .int (x + z)) (fq := []) Rl h e0 hH hj s1 (.int _) ⟨List.nodup_nil, fun _ h => nomatch h⟩
  exact ⟨x, z, rfl, rfl, dx, _, s1 _ _ hH, hlen, r2 _ _ _ D q1 hpR (k.of q2)⟩
end
end BW

set_option Elab.async false
set_option linter.all false
set_option maxRecDepth 100000
set_option maxHeartbeats 4000000
/-! Objects in slots: methods. -/
namespace BW
open PySem L2
theorem Rep.repin {K : PySem.W.Frag} {H : Hp} {fp : List Addr} {a : Addr} {w w' : Option Addr} {cls : Str} {ks : List Str} {ds : List D} (hw : ∀ b, w' = some b → b = a) (r : Rep K H fp (.ref a) (.obj w cls ks ds)) : Rep K H fp (.ref a) (.obj w' cls ks ds) := by
  obtain ⟨a', dx, vs, fp', e1, _, hH, hl, rs, eF⟩ := r.obj_inv
  obtain rfl : a = a' := by injection e1
  rw [eF]
  exact .obj hw hH hl rs
/-- what a method gives: din its object as it comes, val the object and the value -/
def spM (K : PySem.W.Frag) {A R : Type} [Enc R] (din : A → D) (encs : A → List D) (pre : A → Prop) (dout : A → D) (val : A → R) : Sp := fun vs H Q _ =>
  ∃ (x : A) (a : Addr) (vs' : List V) (fs fp : List Addr), vs = .ref a :: vs' ∧ Rep K H fs (.ref a) (din x) ∧ fs.Nodup ∧ Reps K H fp vs' (encs x) ∧ (∀ b ∈ fs, b ∉ fp) ∧ pre x ∧
    ∀ v H' fs' fr, Rep K H' fs' (.ref a) (dout x) → fs'.Nodup → Rep K H' fr v (enc (val x)) → fr.Nodup → (∀ b ∈ fr, b ∉ fs') → (∀ b ∈ fs', b ∈ fs ∨ H b = none) → (∀ b ∈ fr, b ∈ fs ∨ H b = none) → Frm (· ∈ fs) H (· ∈ fs') H' → Q v H'
/-- a state and a value are returned -/
def RS (_ : Addr) (S R : Type) : Type := S × R
instance {a : Addr} {S R : Type} [Obj S] [Enc R] : Ret (RS a S R) :=
  ⟨fun K O H rt r => ∀ v H' fs' fr, Rep K H' fs' (.ref a) (objD none r.1) → fs'.Nodup → Rep K H' fr v (enc r.2) → fr.Nodup → (∀ b ∈ fr, b ∉ fs') → (∀ b ∈ fs', O b ∨ H b = none) → (∀ b ∈ fr, O b ∨ H b = none) → Frm O H (· ∈ fs') H' → rt v H',
   fun h f v H2 fs' fr r1 n1 r2 n2 dj k1 k2 f2 => h v H2 fs' fr r1 n1 r2 n2 dj (fun b hb => f.fp (k1 b hb)) (fun b hb => f.fp (k2 b hb)) (f.trans f2)⟩
section
variable {P : Program} {w : World} {K : PySem.W.Frag} {mg : Str → Option Value} {base : Heap} {x qual : Str} {params : Arguments} {body : List Stmt} {sc : Scope} {f : Addr} {fd : FuncData} {N ps : List Str}
/-- the slots at a method's entry -/
def gM (n : Nat) (d0 : D) (ds : List D) : Gam := .val true d0 :: (ds.map (Slot.val false) ++ List.replicate (n - (ds.length + 1)) Slot.no)
theorem gM_at {n : Nat} {d0 : D} {ds : List D} {i : Nat} {s : Slot} (h : (gM n d0 ds)[i + 1]? = some s) : (∃ d, ds[i]? = some d ∧ s = .val false d) ∨ s = .no := by
  unfold gM at h
  rw [List.getElem?_cons_succ, List.getElem?_append] at h
  split at h
  · rw [List.getElem?_map] at h
    cases q : ds[i]? with
    | none => rw [q] at h; cases h
    | some u =>
      rw [q] at h
      exact .inl ⟨u, rfl, (Option.some.inj h).symm⟩
  · rw [List.getElem?_replicate] at h
    split at h
    · exact .inr (Option.some.inj h).symm
    · cases h
theorem relM {H : Hp} {a : Addr} {vs : List V} {d0 : D} {ds : List D} {fs fp : List Addr} (N : List Str) (r0 : Rep K H fs (.ref a) d0) (n0 : fs.Nodup) (r : Reps K H fp vs ds) (dj : ∀ b ∈ fs, b ∉ fp) :
    ∃ F, Rel K (gM N.length d0 ds) (start N (.ref a :: vs)) H F ∧ F 0 = fs ∧ ∀ b, InO (gM N.length d0 ds) F b ↔ b ∈ fs := by
  have hl := r.length
  have key : ∀ i : Nat, ∃ fpi : List Addr, (∀ b ∈ fpi, b ∈ fp) ∧ ∀ d, ds[i]? = some d → ∃ v, vs[i]? = some v ∧ Rep K H fpi v d := fun i => by
    cases e : ds[i]? with
    | none => exact ⟨[], (fun _ h => nomatch h), fun d h => by cases h⟩
    | some d =>
      obtain ⟨v, fp', e1, r1, s1, _⟩ := r.get e
      exact ⟨fp', s1, fun d' h => by cases h; exact ⟨v, e1, r1⟩⟩
  let F : Nat → List Addr := fun i => match i with
    | 0 => fs
    | i + 1 => Classical.choose (key i)
  have hF : ∀ i, (∀ b ∈ F (i + 1), b ∈ fp) ∧ ∀ d, ds[i]? = some d → ∃ v, vs[i]? = some v ∧ Rep K H (F (i + 1)) v d := fun i => Classical.choose_spec (key i)
  have own : ∀ (i : Nat) d, (gM N.length d0 ds)[i]? = some (.val true d) → i = 0 ∧ d = d0 := fun i d e => by
    cases i with
    | zero =>
      have : Slot.val true d0 = .val true d := Option.some.inj e
      injection this with _ h2
      exact ⟨rfl, h2.symm⟩
    | succ i =>
      rcases gM_at e with ⟨_, _, z⟩ | z <;> cases z
  refine ⟨F, ⟨?_, fun i m d e => ?_, fun i d e => ?_, fun i j d m d' n e e' => ?_, fun i b e => ?_⟩, rfl, fun b => ⟨fun ⟨i, d, e, hb⟩ => ?_, fun hb => ⟨0, d0, rfl, hb⟩⟩⟩
  · unfold gM L2.start
    simp [hl]
  · cases i with
    | zero =>
      have : Slot.val true d0 = .val m d := Option.some.inj e
      injection this with h1 h2
      subst h1 h2
      exact ⟨.ref a, by unfold L2.start; rfl, r0⟩
    | succ i =>
      rcases gM_at e with ⟨u, q, z⟩ | z
      · injection z with z1 z2
        subst z2
        obtain ⟨v, hv, rv⟩ := (hF i).2 d q
        refine ⟨v, ?_, rv⟩
        have hi : i < vs.length := (List.getElem?_eq_some_iff.mp hv).1
        unfold L2.start
        rw [List.map_cons, List.cons_append, List.getElem?_cons_succ, List.getElem?_append_left (by rw [List.length_map]; exact hi), List.getElem?_map, hv]
        rfl
      · cases z
  · obtain ⟨rfl, rfl⟩ := own i d e
    exact n0
  · obtain ⟨rfl, rfl⟩ := own i d e
    cases j with
    | zero => exact absurd rfl n
    | succ j =>
      intro b hb z
      exact dj b hb ((hF j).1 b z)
  · cases i with
    | zero => cases e
    | succ i => rcases gM_at e with ⟨_, _, z⟩ | z <;> cases z
  · obtain ⟨rfl, rfl⟩ := own i d e
    exact hb
def pinD (w : Option Addr) : D → D
  | .obj _ c ks ds => .obj w c ks ds
  | d => d
theorem Rep.pin {H : Hp} {fp : List Addr} {a : Addr} {d : D} (r : Rep K H fp (.ref a) d) : Rep K H fp (.ref a) (pinD (some a) d) := by
  cases d with
  | obj w c ks ds => exact r.repin fun b e => (Option.some.inj e).symm
  | _ => exact r
/-- a method that returns -/
theorem fnm_ok {k : Nat} {A S R : Type} [Obj S] [Enc R] {din : A → D} {encs : A → List D} {pre : A → Prop} {val : A → S × R} (F : FunD K x qual params body sc [] [] f fd) (S' : FnScope N ps sc) (hlen : ∀ y, (encs y).length + 1 = ps.length)
    (hbody : ∀ (cdv : Value) (A' : Around) (outer : List PySem.Env) (s : Shared) (H : Hp) (E : XK), Room k (A'.deeper (PyProof.Rows.envOfC qual sc s.heap.objs.size f cdv)) → ∀ (a : Addr) (y : A), SX (cxOf (L2.CX P w) P w K mg base N qual sc f cdv A' outer s H E) (WO E) (gM N.length (pinD (some a) (din y)) (encs y)) body (pre y) noG noG (.ret (val y) : Out Empty Empty (RS a S R))) :
    FnOk P w K mg base (L2.CX P w) (k + 1) f fd ps (spM K din encs pre (fun y => objD none (val y).1) fun y => (val y).2) := by
  refine F.ok S' (fun vs H Q E ⟨y, a, vs', fs, fp, e, _, _, r, _⟩ => by rw [e, List.length_cons, r.length, hlen]) fun cdv A' outer s H vs Q E hr ⟨y, a, vs', fs, fp, e, r0, n0, r, dj, hp, hk⟩ => ?_
  subst e
  obtain ⟨ts, h1, h2⟩ := hbody cdv A' outer s H E hr a y
  obtain ⟨F0, R0, e0, io⟩ := relM N r0.pin n0 r dj
  refine ⟨ts, h1, h2 _ H F0 _ R0 hp ?_⟩
  exact fun v H' fs' fr r1 m1 r2 m2 d2 k1 k2 f2 => hk v H' fs' fr r1 m1 r2 m2 d2 (fun b hb => (k1 b hb).imp (io b).mp id) (fun b hb => (k2 b hb).imp (io b).mp id) fun b o e n => f2 b o e fun z => n ((io b).mp z)
def gS (n : Nat) (a : Addr) {S : Type} [Obj S] (s : S) : Gam := .val true (objD (some a) s) :: List.replicate (n - 1) .no
/-- a method that ends without return -/
theorem fnm_okF {k : Nat} {A S : Type} [Obj S] {din : A → D} {encs : A → List D} {pre : A → Prop} {val : A → S} (F : FunD K x qual params body sc [] [] f fd) (S' : FnScope N ps sc) (hlen : ∀ y, (encs y).length + 1 = ps.length)
    (hbody : ∀ (cdv : Value) (A' : Around) (outer : List PySem.Env) (s : Shared) (H : Hp) (E : XK), Room k (A'.deeper (PyProof.Rows.envOfC qual sc s.heap.objs.size f cdv)) → ∀ (a : Addr) (y : A), SX (cxOf (L2.CX P w) P w K mg base N qual sc f cdv A' outer s H E) (WO E) (gM N.length (pinD (some a) (din y)) (encs y)) body (pre y) (fun s : S => gS N.length a s) noG (.fall (val y) : Out S Empty Unit)) :
    FnOk P w K mg base (L2.CX P w) (k + 1) f fd ps (spM K din encs pre (fun y => objD none (val y)) fun _ => ()) := by
  refine F.ok S' (fun vs H Q E ⟨y, a, vs', fs, fp, e, _, _, r, _⟩ => by rw [e, List.length_cons, r.length, hlen]) fun cdv A' outer s H vs Q E hr ⟨y, a, vs', fs, fp, e, r0, n0, r, dj, hp, hk⟩ => ?_
  subst e
  obtain ⟨ts, h1, h2⟩ := hbody cdv A' outer s H E hr a y
  obtain ⟨F0, R0, e0, io⟩ := relM N r0.pin n0 r dj
  refine ⟨ts, h1, h2 _ H F0 _ R0 hp ?_⟩
  intro σ' H' F' R' f2
  obtain ⟨v, _, rv⟩ := R'.rep 0 true _ rfl
  obtain ⟨a', dx, vs2, fp2, rfl, hw, hH, hl, rs, eF⟩ := rv.obj_inv
  obtain rfl := hw a rfl
  have own0 : ∀ b, InO (gS N.length a (val y)) F' b ↔ b ∈ F' 0 := fun b => by
    constructor
    · rintro ⟨i, d, e, hb⟩
      cases i with
      | zero => exact hb
      | succ i =>
        unfold gS at e
        rw [List.getElem?_cons_succ, List.getElem?_replicate] at e
        split at e <;> cases e
    · exact fun hb => ⟨0, _, rfl, hb⟩
  refine hk .non H' (F' 0) [] (rv.repin fun b e => by cases e) (R'.nd 0 _ rfl) .non List.nodup_nil (fun _ h => nomatch h) (fun b hb => ?_) (fun _ h => nomatch h) fun b o e n => ?_
  · by_cases hb2 : b ∈ fs
    · exact .inl hb2
    · cases q : H b with
      | none => exact .inr rfl
      | some o => exact absurd ((own0 b).mpr hb) (f2 b o q fun z => hb2 ((io b).mp z)).2
  · obtain ⟨f3, f4⟩ := f2 b o e fun z => n ((io b).mp z)
    exact ⟨f3, fun z => f4 ((own0 b).mpr z)⟩
end
/-- a method that can be called -/
structure CalM (P : Program) (w : World) (K : PySem.W.Frag) (mg : Str → Option Value) (base : Heap) (cls m : Str) (k : Nat) (ps : List Str) (sp : Sp) : Prop where
  kc : Cls K (He.ga K cls)
  ex : ∃ f fd, Meth K (He.ga K cls) m f ∧ Binds K fd ps [] ∧ FnOk P w K mg base (L2.CX P w) k f fd ps sp
/-- a class that can be called -/
structure CalC (P : Program) (w : World) (K : PySem.W.Frag) (mg : Str → Option Value) (base : Heap) (cls : Str) (k : Nat) (ps : List Str) (sp : Sp) : Prop where
  gl : mg cls = some (.ref (He.ga K cls))
  ex : ∃ f fd, Mk K (He.ga K cls) f ∧ Binds K fd ps [] ∧ FnOk P w K mg base (L2.CX P w) k f fd ps sp
section
variable {X : Cx} {G : Gam} {N : List Str} {sc : Scope} {e a b c : Expr} {es : List Expr} {p pa pb pr q : Prop} {pos ppos fpos apos cpos : Pos}
variable {W : WX} {S B R : Type} [Ret R] {g : S → Gam} {gb : B → Gam} {rest : List Stmt} {cls : Str} {ks : List Str} {ds : List D} {w : Option Addr}
/-- what a method's call in statement place does -/
theorem meth_post {K : PySem.W.Frag} {A U : Type} [Enc U] {din : A → D} {encs : A → List D} {pre : A → Prop} {dout : A → D} {val : A → U} {σ : St} {H H1 : Hp} {F : Nat → List Addr} {i : Nat} {x : A} {a0 : Addr} {vs : List V} {fp : List Addr} {Q : VK} {E : XK}
    (Rl : Rel K G σ H F) (h : G[i]? = some (.val true (.obj w cls ks ds))) (hs : σ[i]? = some (some (.ref a0))) (hd : din x = .obj none cls ks ds) (s1 : Same H H1) (rs : Reps K H1 fp vs (encs x)) (kd : KdOk .shr (InS G F) H fp) (hp : pre x)
    (hq : ∀ v H' F' fr, Rel K (G.set i (.val true (pinD w (dout x)))) σ H' F' → Frm (InO G F) H (InO (G.set i (.val true (pinD w (dout x)))) F') H' → Rep K H' fr v (enc (val x)) → fr.Nodup → (∀ b ∈ fr, ¬ InO (G.set i (.val true (pinD w (dout x)))) F' b) → (∀ b ∈ fr, b ∈ F i ∨ H b = none) → Q v H') :
    spM K din encs pre dout val (.ref a0 :: vs) H1 Q E := by
  obtain ⟨v0, e0, r0⟩ := Rl.rep i _ _ h
  rw [hs] at e0
  obtain rfl := Option.some.inj (Option.some.inj e0)
  have nd := Rl.nd i _ h
  have hw : ∀ b, w = some b → b = a0 := by
    obtain ⟨a', dx, vs', fp', e1, hw, _⟩ := r0.obj_inv
    obtain rfl : a0 = a' := by injection e1
    exact hw
  refine ⟨x, a0, vs, F i, fp, rfl, by rw [hd]; exact (r0.repin fun b e => by cases e).same s1, nd, rs, fun b hb z => Rl.shrN kd b z ⟨i, _, h, hb⟩, hp, fun v H' fs' fr r1 n1 r2 n2 dj k1 k2 f2 => ?_⟩
  have r3 : Rep K H' fs' (.ref a0) (pinD w (dout x)) := by
    generalize dout x = d at r1 ⊢
    cases d with
    | obj w' c' ks' ds' => exact r1.repin hw
    | _ => exact r1
  have hfr : Frm (· ∈ F i) H (· ∈ fs') H' := fun b o e n => f2 b o (s1 b o e) n
  have hnew : ∀ b ∈ fs', b ∈ F i ∨ H b = none := fun b hb => (k1 b hb).imp id s1.free
  obtain ⟨q1, q2⟩ := Rl.mut h hs r3 n1 hfr hnew
  refine hq v H' _ fr q1 q2 r2 n2 (fun b hb z => ?_) fun b hb => (k2 b hb).imp id s1.free
  obtain ⟨j, dj', ej, hj⟩ := z
  by_cases hij : j = i
  · subst hij
    rw [updF_same] at hj
    exact dj b hb hj
  · rw [updF_ne hij] at hj
    have ej' := set_ne hij ej
    rcases k2 b hb with z | z
    · exact Rl.dj i j _ _ _ (Ne.symm hij) h ej' b z hj
    · obtain ⟨u, _, ru⟩ := Rl.rep j _ _ ej'
      exact ru.there hj (s1.free z)
/-- o.m(..) as a statement -/
theorem sx_meth {A U : Type} [Enc U] {din : A → D} {encs : A → List D} {pre : A → Prop} {dout : A → D} {val : A → U} {k : Nat} {ps : List Str} {y m : Str} {pR : Prop} {oR : Out S B R} {p1 : Prop} (C : Cxf X N sc) (i : Nat) (V : Vr N sc i y)
    (F : CalM X.prog X.w X.K X.mg X.base cls m k ps (spM X.K din encs pre dout val)) (hr : Room k X.A) (x : A) (ha : AX X G (e :: es) pa (encs x) .shr)
    (hR : SX X W (G.set i (.val true (pinD w (dout x)))) rest pR g gb oR) (c1 : Cmb pa (pre x) p1) (c2 : Cmb p1 pR p) (h : G[i]? = some (.val true (.obj w cls ks ds)) := by rfl) (hd : din x = .obj none cls ks ds := by rfl) (hm : idx ks m = none := by rfl)
    (hst : starEach (e :: es) X.env = (false, eval e X.env) :: starEach es X.env := by rfl) (hpl : (backTo cpos (starEach es X.env)).any (·.1) = false := by rfl)
    {pl : Sem Bool} (ht : eval (.Call (.Attribute (.Name y ppos) m apos) (e :: es) [] cpos) X.env = (do
      let ov ← eval (.Name y ppos) X.env
      standAt apos.atName
      let (f, first) ← holding [ov] (getMethod ov m pl)
      callWith cpos f first (backTo cpos (starEach (e :: es) X.env)) (backToKw cpos (keywordEach [] X.env))) := by rfl)
    (hs : swapsWith (.Call (.Attribute (.Name y ppos) m apos) (e :: es) [] cpos) none pos.line X.env = pure false := by rfl) :
    SX X W G (.Expr (.Call (.Attribute (.Name y ppos) m apos) (e :: es) [] cpos) pos :: rest) p g gb oR := by
  obtain ⟨ta, a1, a2⟩ := ha
  obtain ⟨ts, r1, r2⟩ := hR
  obtain ⟨f, fd, hM, hb, F'⟩ := F.ex
  refine ⟨_, pss_cons (ps_expr (pe_meth (E := fun _ _ _ => False) (pe_slot C V) F.kc hM F' hr hb .nil passL a1 hst hpl ht) hs) r1, fun σ H Fs D Rl hp k => ?_⟩
  obtain ⟨hp1, hpR⟩ := c2.out hp
  obtain ⟨hpa, hpx⟩ := c1.out hp1
  obtain ⟨v0, e0, r0⟩ := Rl.rep i _ _ h
  obtain ⟨a0, dx, vs0, fp0, rfl, hw, hH, hl, rs, eF⟩ := r0.obj_inv
  refine ⟨_, e0, a0, dx, _, rfl, hH, lookup_zipN hm, a2 σ H Fs _ Rl hpa fun vs H1 fp s1 rv kd => ?_⟩
  rw [List.append_nil]
  exact meth_post Rl h e0 hd s1 rv kd hpx fun v H' F' fr q1 q2 _ _ _ _ => r2 _ _ _ D q1 hpR (k.of q2)
/-- o.m() as a statement -/
theorem sx_meth0 {A U : Type} [Enc U] {din : A → D} {encs : A → List D} {pre : A → Prop} {dout : A → D} {val : A → U} {k : Nat} {ps : List Str} {y m : Str} {pR : Prop} {oR : Out S B R} (C : Cxf X N sc) (i : Nat) (V : Vr N sc i y)
    (F : CalM X.prog X.w X.K X.mg X.base cls m k ps (spM X.K din encs pre dout val)) (hr : Room k X.A) (x : A)
    (hR : SX X W (G.set i (.val true (pinD w (dout x)))) rest pR g gb oR) (c2 : Cmb (pre x) pR p) (h : G[i]? = some (.val true (.obj w cls ks ds)) := by rfl) (hd : din x = .obj none cls ks ds := by rfl) (hx : encs x = [] := by rfl) (hm : idx ks m = none := by rfl)
    {pl : Sem Bool} (ht : eval (.Call (.Attribute (.Name y ppos) m apos) [] [] cpos) X.env = (do
      let ov ← eval (.Name y ppos) X.env
      standAt apos.atName
      let (f, first) ← holding [ov] (getMethod ov m pl)
      callWith cpos f first (backTo cpos (starEach [] X.env)) (backToKw cpos (keywordEach [] X.env))) := by rfl)
    (hs : swapsWith (.Call (.Attribute (.Name y ppos) m apos) [] [] cpos) none pos.line X.env = pure false := by rfl) :
    SX X W G (.Expr (.Call (.Attribute (.Name y ppos) m apos) [] [] cpos) pos :: rest) p g gb oR := by
  obtain ⟨ts, r1, r2⟩ := hR
  obtain ⟨f, fd, hM, hb, F'⟩ := F.ex
  refine ⟨_, pss_cons (ps_expr (pe_meth0 (E := fun _ _ _ => False) (pe_slot C V) F.kc hM F' hr hb .nil passL ht) hs) r1, fun σ H Fs D Rl hp k => ?_⟩
  obtain ⟨hpx, hpR⟩ := c2.out hp
  obtain ⟨v0, e0, r0⟩ := Rl.rep i _ _ h
  obtain ⟨a0, dx, vs0, fp0, rfl, hw, hH, hl, rs, eF⟩ := r0.obj_inv
  refine ⟨_, e0, a0, dx, _, rfl, hH, lookup_zipN hm, ?_⟩
  exact meth_post (E := fun _ _ _ => False) (fp := []) Rl h e0 hd (Same.refl _) (by rw [hx]; exact .nil) KdOk.nil hpx fun v H' F' fr q1 q2 _ _ _ _ => r2 _ _ _ D q1 hpR (k.of q2)
/-- return of a value, with the object -/
theorem sx_retM {a0 : Addr} {S' R' : Type} [Obj S'] [Enc R'] {s : S'} {x : R'} (i : Nat) (he : EX X G e p x .frs) (h : G[i]? = some (.val true (objD (some a0) s)) := by rfl) :
    SX X W G (.Return (some e) pos :: rest) p g gb (.ret ((s, x) : RS a0 S' R') : Out S B (RS a0 S' R')) := by
  obtain ⟨te, h1, h2⟩ := he
  refine ⟨_, pss_cons (ps_ret h1) pss_never, fun σ H F D Rl hp k => h2 σ H F _ Rl hp fun v H' fr s1 rv kd => ?_⟩
  obtain ⟨v0, e0, r0⟩ := (Rl.same s1).rep i _ _ h
  obtain ⟨a', dx, vs0, fp0, rfl, hw, hH, hl, rs, eF⟩ := r0.obj_inv
  obtain rfl := hw a0 rfl
  have nd := Rl.nd i _ h
  obtain ⟨v1, e1, r1⟩ := Rl.rep i _ _ h
  refine k v H' (F i) fr (r0.repin fun b e => by cases e) nd rv kd.1 (fun b hb z => r1.there z (kd.2 b hb)) (fun b hb => .inl ⟨i, _, h, hb⟩) (fun b hb => .inr (kd.2 b hb)) fun b o hb n => ⟨s1 b o hb, fun z => n ⟨i, _, h, z⟩⟩
theorem sx_retNM {a0 : Addr} {S' : Type} [Obj S'] {s : S'} (i : Nat) (h : G[i]? = some (.val true (objD (some a0) s)) := by rfl) :
    SX X W G (.Return none pos :: rest) True g gb (.ret ((s, ()) : RS a0 S' Unit) : Out S B (RS a0 S' Unit)) := by
  refine ⟨_, pss_cons ps_retN pss_never, fun σ H F D Rl _ k => ?_⟩
  obtain ⟨v0, e0, r0⟩ := Rl.rep i _ _ h
  obtain ⟨a', dx, vs0, fp0, rfl, hw, hH, hl, rs, eF⟩ := r0.obj_inv
  obtain rfl := hw a0 rfl
  exact k .non H (F i) [] (r0.repin fun b e => by cases e) (Rl.nd i _ h) .non List.nodup_nil (fun _ h => nomatch h) (fun b hb => .inl ⟨i, _, h, hb⟩) (fun _ h => nomatch h) fun b o hb n => ⟨hb, fun z => n ⟨i, _, h, z⟩⟩
/-- return o.m() -/
theorem sx_retMeth0 {A U : Type} [Enc U] {din : A → D} {encs : A → List D} {pre : A → Prop} {dout : A → D} {val : A → U} {k : Nat} {ps : List Str} {y m : Str} {a0 : Addr} {S' R' : Type} [Obj S'] [Enc R'] {s : S'} {u : R'} (C : Cxf X N sc) (i : Nat) (V : Vr N sc i y)
    (F : CalM X.prog X.w X.K X.mg X.base cls m k ps (spM X.K din encs pre dout val)) (hr : Room k X.A) (x : A)
    (hs' : pinD (some a0) (dout x) = objD (some a0) s) (hu : enc (val x) = enc u) (h : G[i]? = some (.val true (.obj (some a0) cls ks ds)) := by rfl) (hd : din x = .obj none cls ks ds := by rfl) (hx : encs x = [] := by rfl) (hm : idx ks m = none := by rfl)
    {pl : Sem Bool} (ht : eval (.Call (.Attribute (.Name y ppos) m apos) [] [] cpos) X.env = (do
      let ov ← eval (.Name y ppos) X.env
      standAt apos.atName
      let (f, first) ← holding [ov] (getMethod ov m pl)
      callWith cpos f first (backTo cpos (starEach [] X.env)) (backToKw cpos (keywordEach [] X.env))) := by rfl) :
    SX X W G (.Return (some (.Call (.Attribute (.Name y ppos) m apos) [] [] cpos)) pos :: rest) (pre x) g gb (.ret ((s, u) : RS a0 S' R') : Out S B (RS a0 S' R')) := by
  obtain ⟨f, fd, hM, hb, F'⟩ := F.ex
  refine ⟨_, pss_cons (ps_ret (pe_meth0 (E := fun _ _ _ => False) (pe_slot C V) F.kc hM F' hr hb .nil passL ht)) pss_never, fun σ H Fs D Rl hpx k => ?_⟩
  obtain ⟨v0, e0, r0⟩ := Rl.rep i _ _ h
  obtain ⟨a', dx, vs0, fp0, rfl, hw, hH, hl, rs, eF⟩ := r0.obj_inv
  have ha := hw a0 rfl
  subst ha
  refine ⟨_, e0, a0, dx, _, rfl, hH, lookup_zipN hm, ?_⟩
  refine meth_post (E := fun _ _ _ => False) (fp := []) Rl h e0 hd (Same.refl _) (by rw [hx]; exact .nil) KdOk.nil hpx fun v H' F' fr q1 q2 rv nv dj nw => ?_
  have hi : i < G.length := (List.getElem?_eq_some_iff.mp h).1
  have hg : (G.set i (.val true (pinD (some a0) (dout x))))[i]? = some (.val true (pinD (some a0) (dout x))) := by rw [List.getElem?_set_self hi]
  obtain ⟨v1, e1, r1⟩ := q1.rep i _ _ hg
  rw [e0] at e1
  obtain rfl := Option.some.inj (Option.some.inj e1)
  rw [hs'] at r1
  refine k v H' (F' i) fr (r1.repin fun b e => by cases e) (q1.nd i _ hg) (by rw [← hu]; exact rv) nv (fun b hb z => dj b hb ⟨i, _, hg, z⟩) (fun b hb => ?_) (fun b hb => (nw b hb).imp (fun z => ⟨i, _, h, z⟩) id) fun b o hb n => ?_
  · by_cases hO : InO G Fs b
    · exact .inl hO
    · cases q : H b with
      | none => exact .inr rfl
      | some o => exact absurd ⟨i, _, hg, hb⟩ (q2 b o q hO).2
  · obtain ⟨f1, f2⟩ := q2 b o hb n
    exact ⟨f1, fun z => f2 ⟨i, _, hg, z⟩⟩
/-- C(..) -/
theorem ex_make {A S' : Type} [Obj S'] {encs : A → List D} {pre : A → Prop} {val : A → S'} {k : Nat} {ps : List Str} (C : Cxf X N sc) (F : CalC X.prog X.w X.K X.mg X.base cls k ps (spM X.K (fun _ : A => .obj none cls [] []) encs pre (fun y => objD none (val y)) fun _ => ())) (hr : Room (k + 1) X.A) (hg : sc.names.lookup cls = some .globalImplicit)
    (y : A) {kk : Kd} (ha : AX X G (e :: es) pa (encs y) kk) (c1 : Cmb pa (pre y) p) (hdb : (cls == ("__debug__" : Str)) = false := by decide) (he : starEach (e :: es) X.env = (false, eval e X.env) :: starEach es X.env := by rfl) (hpl : (backTo pos (starEach es X.env)).any (·.1) = false := by rfl) :
    EX X G (.Call (.Name cls ppos) (e :: es) [] pos) p (val y) .frs := by
  obtain ⟨ta, a1, a2⟩ := ha
  obtain ⟨f, fd, hM, hb, F'⟩ := F.ex
  refine ⟨_, pe_make (E := fun _ _ _ => False) hM F' hr (C.gl hg) F.gl hb .nil passL a1 hdb he hpl, fun σ H Fs Q Rl hp q => ?_⟩
  obtain ⟨hpa, hpx⟩ := c1.out hp
  refine a2 σ H Fs _ Rl hpa fun vs H1 fp s1 rv _ => fun z dx hz hdx hne => ?_
  rw [List.append_nil]
  have sm : Same H1 (upd (upd H1 dx (.own z)) z (.ins (He.ga X.K cls) dx [])) := (Same.upd hdx).trans (Same.upd (by rw [upd_ne (Ne.symm hne)]; exact hz))
  refine ⟨y, z, vs, [z], fp, rfl, .obj (fun b e => by cases e) upd_same rfl .nil, by simp, rv.same sm, fun b hb hf => ?_, hpx, fun v H' fs' fr r1 n1 r2 n2 dj k1 k2 f2 => ?_⟩
  · rw [List.mem_singleton.mp hb] at hf
    exact rv.there hf hz
  · have hv := r2.non_inv.1
    refine ⟨hv, q _ H' fs' (fun b o e => ?_) r1 ⟨n1, fun b hb => ?_⟩⟩
    · have e1 := s1 b o e
      have hbz : b ≠ z := fun w => by rw [w, hz] at e1; cases e1
      exact (f2 b o (sm b o e1) fun w => hbz (List.mem_singleton.mp w)).1
    · rcases k1 b hb with w | w
      · rw [List.mem_singleton.mp w]; exact s1.free hz
      · exact s1.free (sm.free w)
/-- o.m(..) that writes nothing -/
theorem ex_methP {A U : Type} [Enc U] {encs : A → List D} {pre : A → Prop} {val : A → U} {k : Nat} {ps : List Str} {y m : Str} (C : Cxf X N sc) (i : Nat) (V : Vr N sc i y)
    (F : CalM X.prog X.w X.K X.mg X.base cls m k ps (spR X.K X.mg encs pre fun x => .ok (val x))) (hr : Room k X.A) (x : A) {es' : List D} {kk : Kd} (ha : AX X G (e :: es) pa es' kk) (c1 : Cmb pa (pre x) p) {mm : Bool} (h : G[i]? = some (.val mm (.obj w cls ks ds)) := by rfl) (hx : encs x = .obj none cls ks ds :: es' := by rfl) (hm : idx ks m = none := by rfl)
    (hst : starEach (e :: es) X.env = (false, eval e X.env) :: starEach es X.env := by rfl) (hpl : (backTo cpos (starEach es X.env)).any (·.1) = false := by rfl)
    {pl : Sem Bool} (ht : eval (.Call (.Attribute (.Name y ppos) m apos) (e :: es) [] cpos) X.env = (do
      let ov ← eval (.Name y ppos) X.env
      standAt apos.atName
      let (f, first) ← holding [ov] (getMethod ov m pl)
      callWith cpos f first (backTo cpos (starEach (e :: es) X.env)) (backToKw cpos (keywordEach [] X.env))) := by rfl) :
    EX X G (.Call (.Attribute (.Name y ppos) m apos) (e :: es) [] cpos) p (val x) .frs := by
  obtain ⟨ta, a1, a2⟩ := ha
  obtain ⟨f, fd, hM, hb, F'⟩ := F.ex
  refine ⟨_, pe_meth (E := fun _ _ _ => False) (pe_slot C V) F.kc hM F' hr hb .nil passL a1 hst hpl ht, fun σ H Fs Q Rl hp q => ?_⟩
  obtain ⟨hpa, hpx⟩ := c1.out hp
  obtain ⟨v0, e0, r0⟩ := Rl.rep i _ _ h
  obtain ⟨a0, dx, vs0, fp0, rfl, hw, hH, hl, rs, eF⟩ := r0.obj_inv
  refine ⟨_, e0, a0, dx, _, rfl, hH, lookup_zipN hm, a2 σ H Fs _ Rl hpa fun vs H1 fp s1 rv kd => ?_⟩
  rw [List.append_nil]
  exact ⟨x, _, by rw [hx]; exact .cons ((r0.repin fun b e => by cases e).same s1) rv, hpx, fun v H' fp' s r n f => q v H' fp' (s1.trans s) r ⟨n, fun b hb => s1.free (f b hb)⟩⟩
theorem ex_methP0 {A U : Type} [Enc U] {encs : A → List D} {pre : A → Prop} {val : A → U} {k : Nat} {ps : List Str} {y m : Str} (C : Cxf X N sc) (i : Nat) (V : Vr N sc i y)
    (F : CalM X.prog X.w X.K X.mg X.base cls m k ps (spR X.K X.mg encs pre fun x => .ok (val x))) (hr : Room k X.A) (x : A) {mm : Bool} (h : G[i]? = some (.val mm (.obj w cls ks ds)) := by rfl) (hx : encs x = [.obj none cls ks ds] := by rfl) (hm : idx ks m = none := by rfl)
    {pl : Sem Bool} (ht : eval (.Call (.Attribute (.Name y ppos) m apos) [] [] cpos) X.env = (do
      let ov ← eval (.Name y ppos) X.env
      standAt apos.atName
      let (f, first) ← holding [ov] (getMethod ov m pl)
      callWith cpos f first (backTo cpos (starEach [] X.env)) (backToKw cpos (keywordEach [] X.env))) := by rfl) :
    EX X G (.Call (.Attribute (.Name y ppos) m apos) [] [] cpos) (pre x) (val x) .frs := by
  obtain ⟨f, fd, hM, hb, F'⟩ := F.ex
  refine ⟨_, pe_meth0 (E := fun _ _ _ => False) (pe_slot C V) F.kc hM F' hr hb .nil passL ht, fun σ H Fs Q Rl hpx q => ?_⟩
  obtain ⟨v0, e0, r0⟩ := Rl.rep i _ _ h
  obtain ⟨a0, dx, vs0, fp0, rfl, hw, hH, hl, rs, eF⟩ := r0.obj_inv
  refine ⟨_, e0, a0, dx, _, rfl, hH, lookup_zipN hm, ?_⟩
  exact ⟨x, _, by rw [hx]; exact .cons (r0.repin fun b e => by cases e) .nil, hpx, fun v H' fp' s r n f => q v H' fp' s r ⟨n, f⟩⟩
end
end BW

set_option Elab.async false
set_option linter.all false
set_option maxRecDepth 100000
set_option maxHeartbeats 4000000
/-! Objects in slots: a list in a field grows. -/
namespace BW
open PySem L2
theorem Reps.split {K : PySem.W.Frag} {H : Hp} {d : D} : ∀ {ds : List D} {fp : List Addr} {vs : List V} (j : Nat), Reps K H fp vs ds → ds[j]? = some d → ∃ fa fj fb va v vb da db, fp = fa ++ (fj ++ fb) ∧ vs = va ++ v :: vb ∧ ds = da ++ d :: db ∧ da.length = j ∧ va.length = j ∧ Reps K H fa va da ∧ Rep K H fj v d ∧ Reps K H fb vb db
  | [], _, _, _, _, h => by simp at h
  | d' :: ds, _, _, 0, r, h => by
    cases r with
    | cons r1 r2 =>
      rename_i f1 f2 u us
      obtain rfl := Option.some.inj h
      exact ⟨[], f1, f2, [], u, us, [], ds, rfl, rfl, rfl, rfl, rfl, .nil, r1, r2⟩
  | d' :: ds, _, _, j + 1, r, h => by
    cases r with
    | cons r1 r2 =>
      rename_i f1 f2 u us
      obtain ⟨fa, fj, fb, va, v, vb, da, db, e1, e2, e3, e4, e5, a1, a2, a3⟩ := Reps.split j r2 (by simpa using h)
      exact ⟨f1 ++ fa, fj, fb, u :: va, v, vb, d' :: da, db, by rw [e1, List.append_assoc], by rw [e2]; rfl, by rw [e3]; rfl, by rw [List.length_cons, e4], by rw [List.length_cons, e5], .cons r1 a1, a2, a3⟩
section
variable {X : Cx} {G : Gam} {N : List Str} {sc : Scope} {e a b c : Expr} {es : List Expr} {p pa pb pr q : Prop} {pos ppos fpos apos cpos : Pos}
variable {W : WX} {S B R : Type} [Ret R] {g : S → Gam} {gb : B → Gam} {rest : List Stmt} {cls : Str} {ks : List Str} {ds : List D} {w : Option Addr}
theorem sx_fldApp {t : Type} [Enc t] {xs : List t} {x : t} {y f : Str} {pR : Prop} {oR : Out S B R} {p1 : Prop} (C : Cx0 X N sc) (i : Nat) (V : Vr N sc i y) (j : Nat) (kc : Cls X.K (He.ga X.K cls)) (na : NoAttr X.K (He.ga X.K cls) f) (he : EX X G e pa x .frs)
    (hR : SX X W (G.set i (.val true (.obj w cls ks (ds.set j (enc (xs ++ [x])))))) rest pR g gb oR) (c1 : Cmb pa (LenOk (xs.length + 1)) p1) (c2 : Cmb p1 pR p) (h : G[i]? = some (.val true (.obj w cls ks ds)) := by rfl) (hj : idx ks f = some j := by rfl) (hx : ds[j]? = some (enc xs) := by rfl)
    (hbase : attributeBase (.Attribute (.Name y ppos) f fpos) "append" X.env (eval (.Attribute (.Name y ppos) f fpos) X.env) = eval (.Attribute (.Name y ppos) f fpos) X.env := by rfl)
    (hfew : ((backTo cpos (starEach [e] X.env)).all (fun x => !x.1) && (backToKw cpos (keywordEach [] X.env)).all (fun x => x.1.isSome) && decide ([e].length + ([] : List Keyword).length + (if ([] : List Keyword).isEmpty then 0 else 1) < 30)) = true := by rfl)
    (hline : (apos.endLine == cpos.line) = true := by rfl) (hst : starEach [e] X.env = (false, eval e X.env) :: starEach [] X.env := by rfl) (hplain : (backTo cpos (starEach [] X.env)).any (·.1) = false := by rfl)
    (hs : swapsWith (.Call (.Attribute (.Attribute (.Name y ppos) f fpos) "append" apos) [e] [] cpos) none pos.line X.env = pure false := by rfl) :
    SX X W G (.Expr (.Call (.Attribute (.Attribute (.Name y ppos) f fpos) "append" apos) [e] [] cpos) pos :: rest) p g gb oR := by
  obtain ⟨te, h1, h2⟩ := he
  obtain ⟨ts, r1, r2⟩ := hR
  refine ⟨_, pss_cons (ps_expr (pe_bm PySem.F.plainAttrs_list PySem.F.slot_list_append PySem.F.type_list_append mt_append (pe_fld0 C V) (pa_cons h1 pa_nil hst) hbase hfew hline hst hplain) hs) r1, fun σ H F D Rl hp k => ?_⟩
  obtain ⟨hp1, hpR⟩ := c2.out hp
  obtain ⟨hpa, hlen⟩ := c1.out hp1
  obtain ⟨v0, e0, r0⟩ := Rl.rep i _ _ h
  obtain ⟨a0, dx, vs, fp', rfl, hw, hH, hl, rs, eF⟩ := r0.obj_inv
  have hnd := Rl.nd i _ h
  rw [eF] at hnd
  obtain ⟨fa, fj, fb, va, v, vb, da, db, e1, e2, e3, e4, e5, A1, A2, A3⟩ := Reps.split j rs hx
  obtain ⟨l, zs, fl, rfl, hL, rl, e6⟩ := A2.lst_inv'
  have hv : vs[j]? = some (.ref l) := by rw [e2, ← e5]; simp
  refine ⟨_, e0, a0, _, dx, _, _, rfl, hH, kc, na, lookup_zip hj hv, .inl ⟨rfl, _, SqL.of hL⟩, h2 σ H F _ Rl hpa fun u H1 fu s1 ru kd => ?_⟩
  have hln := rl.length
  rw [List.length_map] at hln
  refine ⟨l, zs, u, rfl, rfl, s1 _ _ hL, by unfold LenOk at hlen; omega, ?_⟩
  subst e1 e6
  have n0 := List.nodup_cons.mp hnd
  have n1 := List.nodup_append.mp n0.2
  have n2 := List.nodup_append.mp n1.2.1
  have n3 := List.nodup_cons.mp n2.1
  have la : l ≠ a0 := fun z => n0.1 (by rw [← z]; simp)
  have lfa : l ∉ fa := fun z => n1.2.2 l z l (by simp) rfl
  have lfb : l ∉ fb := fun z => n2.2.2 l (by simp) l z rfl
  have lfu : l ∉ fu := fun z => by rw [kd.2 l z] at hL; cases hL
  have au : a0 ∉ fu := fun z => by rw [kd.2 a0 z] at hH; cases hH
  have hL1 := s1 _ _ hL
  have m : Mut (.lst zs) := .lst zs
  have rn : Reps X.K (upd H1 l (.lst (zs ++ [u]))) (fl ++ fu) (zs ++ [u]) ((xs ++ [x]).map enc) := by
    have rb := Reps.cons (ru.updO (o' := .lst (zs ++ [u])) hL1 m lfu) .nil
    rw [List.append_nil] at rb
    rw [List.map_append]
    exact ((rl.same s1).updO hL1 m n3.1).append rb
  have rj : Rep X.K (upd H1 l (.lst (zs ++ [u]))) (l :: (fl ++ fu)) (.ref l) (enc (xs ++ [x])) := .lst upd_same rn
  have rw2 : Reps X.K (upd H1 l (.lst (zs ++ [u]))) (fa ++ ((l :: (fl ++ fu)) ++ fb)) (va ++ .ref l :: vb) (da ++ enc (xs ++ [x]) :: db) :=
    ((A1.same s1).updO hL1 m lfa).append (.cons rj ((A3.same s1).updO hL1 m lfb))
  have ed : ds.set j (enc (xs ++ [x])) = da ++ enc (xs ++ [x]) :: db := by rw [e3, ← e4]; simp
  have r3 : Rep X.K (upd H1 l (.lst (zs ++ [u]))) (a0 :: (fa ++ ((l :: (fl ++ fu)) ++ fb))) (.ref a0) (.obj w cls ks (ds.set j (enc (xs ++ [x])))) := by
    refine .obj (dx := dx) hw ?_ (by rw [List.length_set]; exact hl) (by rw [ed]; exact rw2)
    rw [upd_ne (Ne.symm la), ← e2]
    exact s1 _ _ hH
  have old : ∀ b, b ∈ (a0 :: (fa ++ ((l :: (fl ++ fu)) ++ fb))) ↔ b ∈ (a0 :: (fa ++ ((l :: fl) ++ fb))) ∨ b ∈ fu := fun b => by
    simp only [List.mem_cons, List.mem_append]
    constructor
    · rintro (z | z | (z | z | z) | z)
      · exact .inl (.inl z)
      · exact .inl (.inr (.inl z))
      · exact .inl (.inr (.inr (.inl (.inl z))))
      · exact .inl (.inr (.inr (.inl (.inr z))))
      · exact .inr z
      · exact .inl (.inr (.inr (.inr z)))
    · rintro ((z | z | (z | z) | z) | z)
      · exact .inl z
      · exact .inr (.inl z)
      · exact .inr (.inr (.inl (.inl z)))
      · exact .inr (.inr (.inl (.inr (.inl z))))
      · exact .inr (.inr (.inr z))
      · exact .inr (.inr (.inl (.inr (.inr z))))
  have tr : ∀ b ∈ (a0 :: (fa ++ ((l :: fl) ++ fb))), H b ≠ none := fun b hb => r0.there (by rw [eF]; exact hb)
  have un : ∀ b ∈ fu, b ∉ (a0 :: (fa ++ ((l :: fl) ++ fb))) := fun b hb z => tr b z (kd.2 b hb)
  have pm : (a0 :: (fa ++ ((l :: (fl ++ fu)) ++ fb))).Perm ((a0 :: (fa ++ ((l :: fl) ++ fb))) ++ fu) := by
    refine List.Perm.cons _ (show (fa ++ ((l :: (fl ++ fu)) ++ fb)).Perm ((fa ++ ((l :: fl) ++ fb)) ++ fu) from ?_)
    rw [List.append_assoc]
    refine List.Perm.append_left _ (List.Perm.cons _ (show ((fl ++ fu) ++ fb).Perm ((fl ++ fb) ++ fu) from ?_))
    rw [List.append_assoc, List.append_assoc]
    exact List.Perm.append_left _ List.perm_append_comm
  have nd : (a0 :: (fa ++ ((l :: (fl ++ fu)) ++ fb))).Nodup := pm.nodup_iff.mpr (List.nodup_append.mpr ⟨hnd, kd.1, fun b hb c hc z => un c hc (z ▸ hb)⟩)
  have hf : Frm (· ∈ F i) H (· ∈ (a0 :: (fa ++ ((l :: (fl ++ fu)) ++ fb)))) (upd H1 l (.lst (zs ++ [u]))) := fun b o hb n => by
    rw [eF] at n
    have hne : b ≠ l := fun z => n (by rw [z]; simp)
    refine ⟨by rw [upd_ne hne]; exact s1 _ _ hb, fun z => ?_⟩
    rcases (old b).mp z with z | z
    · exact n z
    · rw [kd.2 b z] at hb; cases hb
  obtain ⟨q1, q2⟩ := Rl.mut h e0 r3 nd hf fun b hb => by
    rw [eF]
    exact ((old b).mp hb).imp id (kd.2 b)
  exact r2 _ _ _ D q1 hpR (k.of q2)
end
end BW

set_option Elab.async false
set_option linter.all false
set_option maxRecDepth 100000
set_option maxHeartbeats 4000000
/-! Objects in slots: what a class gives. -/
namespace BW
open PySem L2
def clsBody : Stmt → List Stmt
  | .ClassDef _ _ _ b _ _ _ _ _ _ _ => b
  | _ => []
abbrev FnPM (K : PySem.W.Frag) (x qual : Str) (st : Stmt) (f : Addr) (fd : FuncData) : Prop := FunD K x qual (defArgs st) (defBody st) (defScope st) [] [] f fd
section
variable {P : Program} {w : World} {K : PySem.W.Frag} {mg : Str → Option Value} {base : Heap} {x qual cls m : Str} {params : Arguments} {body : List Stmt} {sc : Scope} {f : Addr} {fd : FuncData} {N ps : List Str}
theorem spM_imp {A R : Type} [Enc R] {din : A → D} {encs : A → List D} {pre pre' : A → Prop} {dout dout' : A → D} {val val' : A → R} (h : ∀ a, pre' a → pre a ∧ dout a = dout' a ∧ val a = val' a) : ∀ vs H Q E, spM K din encs pre' dout' val' vs H Q E → spM K din encs pre dout val vs H Q E := by
  rintro vs H Q E ⟨y, a, vs', fs, fp, e, r0, n0, r, dj, hp, k⟩
  obtain ⟨h1, h2, h3⟩ := h y hp
  exact ⟨y, a, vs', fs, fp, e, r0, n0, r, dj, h1, by rw [h2, h3]; exact k⟩
theorem calM_mk {k : Nat} {sp sp' : Sp} (kc : Cls K (He.ga K cls)) (hM : Meth K (He.ga K cls) m f) (hb : Binds K fd ps []) (h : FnOk P w K mg base (L2.CX P w) k f fd ps sp) (hi : ∀ vs H Q E, sp' vs H Q E → sp vs H Q E) : CalM P w K mg base cls m k ps sp' :=
  ⟨kc, f, fd, hM, hb, h.imp hi⟩
theorem calC_mk {k : Nat} {sp sp' : Sp} (gl : mg cls = some (.ref (He.ga K cls))) (hM : Mk K (He.ga K cls) f) (hb : Binds K fd ps []) (h : FnOk P w K mg base (L2.CX P w) k f fd ps sp) (hi : ∀ vs H Q E, sp' vs H Q E → sp vs H Q E) : CalC P w K mg base cls k ps sp' :=
  ⟨gl, f, fd, hM, hb, h.imp hi⟩
end
section
variable {X : Cx} {W : WX} {ss : List Stmt} {S B R t : Type} [Ret R] {g : S → Gam} {gb : B → Gam}
theorem sx_letO (v : t) (Gf : t → Gam) {p : t → Prop} {o : t → Out S B R} (h : ∀ x, SX X W (Gf x) ss (p x) g gb (o x)) : SX X W (Gf v) ss (lt v p) g gb (lt v o) := h v
theorem sx_letV (v : t) (Gf : t → Gam) {p : t → Prop} {r : t → R} (h : ∀ x, SX X W (Gf x) ss (p x) g gb (.ret (r x) : Out S B R)) : SX X W (Gf v) ss (lt v p) g gb (.ret (lt v r) : Out S B R) := h v
theorem sx_letF (v : t) (Gf : t → Gam) {p : t → Prop} {r : t → S} (h : ∀ x, SX X W (Gf x) ss (p x) g gb (.fall (r x) : Out S B R)) : SX X W (Gf v) ss (lt v p) g gb (.fall (lt v r) : Out S B R) := h v
theorem sx_letOT (v : t) (Gf : t → Gam) {o : t → Out S B R} (h : ∀ x, SX X W (Gf x) ss True g gb (o x)) : SX X W (Gf v) ss True g gb (lt v o) := h v
theorem sx_letVT (v : t) (Gf : t → Gam) {r : t → R} (h : ∀ x, SX X W (Gf x) ss True g gb (.ret (r x) : Out S B R)) : SX X W (Gf v) ss True g gb (.ret (lt v r) : Out S B R) := h v
theorem sx_letFT (v : t) (Gf : t → Gam) {r : t → S} (h : ∀ x, SX X W (Gf x) ss True g gb (.fall (r x) : Out S B R)) : SX X W (Gf v) ss True g gb (.fall (lt v r) : Out S B R) := h v
end
end BW

set_option Elab.async false
set_option linter.all false
set_option maxRecDepth 100000
set_option maxHeartbeats 4000000
/-! The program's classes, as data. -/
namespace BW
open PySem L2
structure Listener where
  form_ : Int × Str
  ear_ : T3 Int Int Int
  row_ : List Int
  look_ : Int
  ahead_ : Int
  begun_ : Option Int
  kept_ : Bool
  known_ : List (Int × Oc)
instance : Obj Listener := ⟨"Listener", ["form", "ear", "row", "look", "ahead", "begun", "kept", "known"], fun s => [enc s.form_, enc s.ear_, enc s.row_, enc s.look_, enc s.ahead_, enc s.begun_, enc s.kept_, enc s.known_]⟩
end BW

set_option Elab.async false
set_option linter.all false
set_option maxRecDepth 100000
set_option maxHeartbeats 4000000
/-! Lists of unlike items; what is owned handed back within a display; a list within changed for the last time. -/
namespace BW
open PySem L2
structure H2 (a b : Type) where
  a : a
  b : b
structure H3 (a b c : Type) where
  a : a
  b : b
  c : c
structure H4 (a b c d : Type) where
  a : a
  b : b
  c : c
  d : d
instance {a b : Type} [Enc a] [Enc b] : Enc (H2 a b) := ⟨fun x => .lst [enc x.a, enc x.b]⟩
instance {a b c : Type} [Enc a] [Enc b] [Enc c] : Enc (H3 a b c) := ⟨fun x => .lst [enc x.a, enc x.b, enc x.c]⟩
instance {a b c d : Type} [Enc a] [Enc b] [Enc c] [Enc d] : Enc (H4 a b c d) := ⟨fun x => .lst [enc x.a, enc x.b, enc x.c, enc x.d]⟩
instance {a b : Type} [DecidableEq a] [DecidableEq b] : DecidableEq (H2 a b) := fun x y => by
  cases x; cases y
  rw [H2.mk.injEq]
  infer_instance
instance {a b : Type} [Enc a] [Enc b] [DecidableEq a] [DecidableEq b] [PyEq a] [PyEq b] : PyEq (H2 a b) := ⟨max (PyEq.dep a) (PyEq.dep b) + 1, fun x => PyEq.good x.a && PyEq.good x.b, fun x y => by
  show (PyData.eqv (pyd (enc x.a)) (pyd (enc y.a)) && (PyData.eqv (pyd (enc x.b)) (pyd (enc y.b)) && true)) = _
  rw [PyEq.eq, PyEq.eq, Bool.and_true]
  cases x; cases y
  simp only [H2.mk.injEq]
  exact (Bool.decide_and _ _).symm, fun x h => by
  simp only [Bool.and_eq_true] at h
  show ((pyd (enc x.a)).canLay0 && ((pyd (enc x.b)).canLay0 && true)) = true
  rw [PyEq.lay _ h.1, PyEq.lay _ h.2]; rfl, fun x => by
  show max (PyData.depth (pyd (enc x.a))) (max (PyData.depth (pyd (enc x.b))) 0) + 1 ≤ _
  have h1 := PyEq.dp x.a
  have h2 := PyEq.dp x.b
  omega⟩
instance {a b : Type} [Enc a] [Enc b] [DecidableEq a] [DecidableEq b] [PyEq a] [PyEq b] [PyEq0 a] [PyEq0 b] : PyEq0 (H2 a b) := ⟨fun x => by
  show (PyEq.good x.a && PyEq.good x.b) = true
  rw [PyEq0.all, PyEq0.all]; rfl⟩
section
variable {K : PySem.W.Frag} {G : Gam} {σ : St} {H H' : Hp} {F : Nat → List Addr}
/-- what an owned slot holds is changed and forgotten -/
theorem Rel.dropMut {i : Nat} {d : D} (R : Rel K G σ H F) (hi : G[i]? = some (.val true d)) (f : Frm (· ∈ F i) H (fun _ => False) H') :
    Rel K (G.set i .no) σ H' F ∧ Frm (InO G F) H (InO (G.set i .no) F) H' := by
  have hiL : i < G.length := (List.getElem?_eq_some_iff.mp hi).1
  have lf : Lsts H (· ∈ F i) := fun a ha => R.lsts a ⟨i, d, hi, ha⟩
  have ne : ∀ (j : Nat) s, (G.set i .no)[j]? = some s → s ≠ .no → j ≠ i ∧ G[j]? = some s := fun j s e hs => by
    by_cases hj : j = i
    · subst hj
      exact absurd (set_eq e) hs
    · exact ⟨hj, set_ne hj e⟩
  refine ⟨⟨by simp [R.len], fun j m dj e => ?_, fun j dj e => ?_, fun j j' dj m' dj' n e e' => ?_, fun j a e => ?_⟩, fun b o h n => ?_⟩
  · obtain ⟨hj, e1⟩ := ne j _ e (by nofun)
    obtain ⟨u, hu, rj⟩ := R.rep j m dj e1
    exact ⟨u, hu, (Rep.frm f lf rj fun a ha z => R.dj i j d m dj (Ne.symm hj) hi e1 a z ha).1⟩
  · exact R.nd j dj (ne j _ e (by nofun)).2
  · exact R.dj j j' dj m' dj' n (ne j _ e (by nofun)).2 (ne j' _ e' (by nofun)).2
  · exact R.ex j a (ne j _ e (by nofun)).2
  · refine ⟨(f b o h fun z => n ⟨i, d, hi, z⟩).1, ?_⟩
    rintro ⟨j, dj, e, hb⟩
    exact n ⟨j, dj, (ne j _ e (by nofun)).2, hb⟩
end
section
variable {X : Cx} {G : Gam} {N : List Str} {sc : Scope} {e a b c : Expr} {es : List Expr} {p pa pb pr q : Prop} {pos ppos fpos apos cpos : Pos}
theorem ex_listH {t : Type} [Enc t] {x : t} {ds : List D} {k : Kd} (h : AX X G es p ds k) (hx : enc x = .lst ds := by rfl) (hl : Nat.ble ds.length 1000 = true := by rfl) : EX X G (.List es pos) p x k := by
  obtain ⟨ta, a1, a2⟩ := h
  refine ⟨_, pe_lst a1, fun σ H F Q R hp q => a2 σ H F _ R hp fun vs H1 fp s1 r1 k1 => ⟨by rw [r1.length]; exact Nat.le_trans (Nat.ble_eq.mp hl) (by rw [sizeLine_eq]; decide), fun l hn => ?_⟩⟩
  refine q _ _ (l :: fp) (s1.trans (Same.upd hn)) (by rw [hx]; exact .lst upd_same (r1.same (Same.upd hn))) (KdOk.top s1 hn (fun a ha => r1.there ha) k1)
/-- an item of a list of unlike items -/
theorem ex_ixH {t u : Type} [Enc t] [Enc u] {x : t} {i : Int} {kx ky : Kd} (y : u) (ha : EX X G a p x kx) (hb : EX X G b True i ky) {ds : List D} (j : Nat) (hx : enc x = .lst ds := by rfl) (hj : ixN ds.length i = some j := by rfl) (hy : ds[j]? = some (enc y) := by rfl) (hs : PlainIx b := by exact fun _ _ => rfl) :
    EX X G (.Subscript a b pos) p y kx := by
  obtain ⟨ta, a1, a2⟩ := ha
  obtain ⟨tb, b1, b2⟩ := hb
  refine ⟨_, pe_ix L2.ix_list a1 b1 hs, fun σ H F Q R hp k => ?_⟩
  refine a2 σ H F _ R hp fun v H1 fp s1 r1 k1 => ?_
  refine b2 σ H1 F _ (R.same s1) trivial fun w H2 fp2 s2 r2 _ => ?_
  obtain ⟨l, vs, fp', rfl, hq, rs, eF⟩ := Rep.lst_inv' (show Rep X.K H2 fp v (.lst ds) from hx ▸ (r1.same s2))
  obtain ⟨rfl, _⟩ := r2.int_inv
  obtain ⟨w, fw, e3, rw', sw, nw⟩ := rs.get hy
  refine ⟨l, vs, i, w, rfl, rfl, SqL.of hq, ?_, k w H2 fw (s1.trans s2) rw' ?_⟩
  · unfold atI; rw [rs.length, hj]; exact e3
  · subst eF
    cases kx with
    | any => trivial
    | shr => exact fun a ha => k1 a (List.mem_cons_of_mem _ (sw a ha))
    | frs => exact ⟨nw (List.nodup_cons.mp k1.1).2, fun a ha => k1.2 a (List.mem_cons_of_mem _ (sw a ha))⟩
theorem tg_H {n m : Nat} {kk : Nat} {t : Type} [Enc t] {is : List Nat} {ds : t → List D} {T : Gam → t → Gam} (C : Cxf X N sc) (h : TGQ X n es is ds T) (hx : ∀ x : t, enc x = .lst (ds x)) (hm : ∀ x, (ds x).length = m)
    (hn : (assignEach es X.env).length = m := by rfl) (hst : (assignEach es X.env).findIdx? (·.1) = none := by rfl) : TGT X n (.Tuple es kk pos) is T := by
  obtain ⟨g, a1, a2⟩ := h
  refine ⟨_, pg_lst C.calm a1 hn hst, fun G x v σ H F fp Q hl R r n k => ?_⟩
  rw [hx] at r
  obtain ⟨l, vs, fp', rfl, hq, rs, sub⟩ := r.lst_inv
  exact ⟨l, vs, rfl, hq, by rw [rs.length, hm], a2 G x vs σ H F fp' Q hl R rs (fun a ha => n a (sub a ha)) fun σ' F' l1 R1 f1 m1 i1 o1 j1 e1 => k σ' F' l1 R1 f1 m1 (fun a ha => (i1 a ha).imp id fun z => sub a z) o1 j1 e1⟩
/-- list(a tuple) -/
theorem ex_listT (C : Cxf X N sc) (hg : sc.names.lookup ("list" : Str) = some .globalImplicit) (hm : X.mg "list" = none) {t u : Type} [Enc t] [Enc u] {x : t} {y : u} {ds : List D} {k : Kd} (ha : EX X G e p x k) (hx : enc x = .tup ds := by rfl) (hy : enc y = .lst ds := by rfl) (hs : starEach [e] X.env = (false, eval e X.env) :: starEach [] X.env := by rfl) :
    EX X G (.Call (.Name "list" ppos) [e] [] pos) p y .any := by
  obtain ⟨ta, a1, a2⟩ := ax1 ha hs
  refine ⟨_, pe_callTy call_list_of (C.gl hg) hm (by decide +kernel) a1 (by decide) (by decide) hs rfl, fun σ H F Q R hp q => ?_⟩
  refine a2 σ H F _ R hp fun vs H1 fp s1 r1 _ => ?_
  obtain ⟨v, rfl, rv⟩ := r1.one
  rw [hx] at rv
  obtain ⟨l, ws, rfl, hq, rs⟩ := rv.tup_inv
  refine ⟨l, ws, rfl, .inr hq, fun l' hn => ?_⟩
  exact q _ _ (l' :: fp) (s1.trans (Same.upd hn)) (by rw [hy]; exact .lst upd_same (rs.same (Same.upd hn))) trivial
/-- items: new, or what a slot owns -/
structure AXO (X : Cx) (G : Gam) (es : List Expr) (is : List Nat) (p : Prop) (ds : List D) : Prop where
  own : ∀ i ∈ is, ∃ d, G[i]? = some (.val true d)
  ex : ∃ ta, PA X es ta ∧ ∀ σ H F (Q : List V → Hp → Prop), Rel X.K G σ H F → p → (∀ vs H' fp, Same H H' → Reps X.K H' fp vs ds → fp.Nodup → (∀ a ∈ fp, (∃ i ∈ is, a ∈ F i) ∨ H a = none) → Q vs H') → ta σ H Q
theorem axo_nil : AXO X G [] [] True [] := ⟨fun i h => (by cases h), _, pa_nil, fun _ H _ Q _ _ h => h [] H [] (Same.refl _) .nil List.nodup_nil (fun _ h => nomatch h)⟩
theorem axo_frs {t : Type} [Enc t] {x : t} {ds : List D} {is : List Nat} (he : EX X G e pa x .frs) (hr : AXO X G es is pb ds) (c : Cmb pa pb p) (hs : starEach (e :: es) X.env = (false, eval e X.env) :: starEach es X.env := by rfl) : AXO X G (e :: es) is p (enc x :: ds) := by
  obtain ⟨te, a1, a2⟩ := he
  obtain ⟨ow, ta, b1, b2⟩ := hr
  refine ⟨ow, _, pa_cons a1 b1 hs, fun σ H F Q R hp h => ?_⟩
  obtain ⟨hpa, hpb⟩ := c.out hp
  refine a2 σ H F _ R hpa fun v H1 fp s1 r1 k1 => ?_
  refine b2 σ H1 F _ (R.same s1) hpb fun vs H2 fp2 s2 r2 n2 k2 => ?_
  refine h _ _ (fp ++ fp2) (s1.trans s2) (.cons (r1.same s2) r2) (List.nodup_append.mpr ⟨k1.1, n2, fun a ha b hb e => ?_⟩) fun a ha => ?_
  · subst e
    rcases k2 a hb with ⟨i, hi, z⟩ | z
    · obtain ⟨d, hd⟩ := ow i hi
      obtain ⟨u, _, ru⟩ := R.rep i _ _ hd
      exact ru.there z (k1.2 a ha)
    · exact r1.there ha z
  · rcases List.mem_append.mp ha with z | z
    · exact .inr (k1.2 a z)
    · exact (k2 a z).imp id s1.free
theorem axo_own {t : Type} [Enc t] {x : t} {y : Str} {ds : List D} {is : List Nat} (C : Cx0 X N sc) (i : Nat) (V : Vr N sc i y) (hr : AXO X G es is p ds) (h : G[i]? = some (.val true (enc x)) := by rfl) (hi : i ∉ is := by decide) (hs : starEach (.Name y pos :: es) X.env = (false, eval (.Name y pos) X.env) :: starEach es X.env := by rfl) : AXO X G (.Name y pos :: es) (i :: is) p (enc x :: ds) := by
  obtain ⟨ow, ta, b1, b2⟩ := hr
  refine ⟨fun j hj => ?_, _, pa_cons (pe_slot C V) b1 hs, fun σ H F Q R hp k => ?_⟩
  · rcases List.mem_cons.mp hj with z | z
    · rw [z]; exact ⟨_, h⟩
    · exact ow j z
  · obtain ⟨v, e, r⟩ := R.rep i _ _ h
    refine ⟨v, e, b2 σ H F _ R hp fun vs H2 fp2 s2 r2 n2 k2 => ?_⟩
    refine k _ _ (F i ++ fp2) s2 (.cons (r.same s2) r2) (List.nodup_append.mpr ⟨R.nd i _ h, n2, fun a ha b hb e => ?_⟩) fun a ha => ?_
    · subst e
      rcases k2 a hb with ⟨j, hj, z⟩ | z
      · obtain ⟨d, hd⟩ := ow j hj
        exact R.dj i j _ _ _ (fun w => hi (w ▸ hj)) h hd a ha z
      · exact r.there ha z
    · rcases List.mem_append.mp ha with z | z
      · exact .inl ⟨i, List.mem_cons_self, z⟩
      · exact (k2 a z).imp (fun ⟨j, hj, w⟩ => ⟨j, List.mem_cons_of_mem _ hj, w⟩) id
variable {W : WX} {S B : Type} {gb : B → Gam} {rest : List Stmt}
theorem sx_retTup {R : Type} [Enc R] {g : S → Gam} {x : R} {ds : List D} {is : List Nat} {kk : Nat} (h : AXO X G es is p ds) (hx : enc x = .tup ds := by rfl) (hl : Nat.ble ds.length 1000 = true := by rfl) : SX X W G (.Return (some (.Tuple es kk ppos)) pos :: rest) p g gb (.ret x : Out S B R) := by
  obtain ⟨ow, ta, a1, a2⟩ := h
  refine ⟨_, pss_cons (ps_ret (pe_tup a1)) pss_never, fun σ H F D Rl hp k => a2 σ H F _ Rl hp fun vs H1 fp s1 r1 n1 k1 => ⟨by rw [r1.length]; exact Nat.le_trans (Nat.ble_eq.mp hl) (by rw [sizeLine_eq]; decide), fun l hn => ?_⟩⟩
  refine k _ _ fp (by rw [hx]; exact .tup (SqT.of upd_same) (r1.same (Same.upd hn))) n1 (fun a ha => (k1 a ha).imp (fun ⟨i, hi, z⟩ => by obtain ⟨d, hd⟩ := ow i hi; exact ⟨i, d, hd, z⟩) id) fun b o e n => ⟨(s1.trans (Same.upd hn)) b o e, id⟩
theorem sx_retLst {R : Type} [Enc R] {g : S → Gam} {x : R} {ds : List D} {is : List Nat} (h : AXO X G es is p ds) (hx : enc x = .lst ds := by rfl) (hl : Nat.ble ds.length 1000 = true := by rfl) : SX X W G (.Return (some (.List es ppos)) pos :: rest) p g gb (.ret x : Out S B R) := by
  obtain ⟨ow, ta, a1, a2⟩ := h
  refine ⟨_, pss_cons (ps_ret (pe_lst a1)) pss_never, fun σ H F D Rl hp k => a2 σ H F _ Rl hp fun vs H1 fp s1 r1 n1 k1 => ⟨by rw [r1.length]; exact Nat.le_trans (Nat.ble_eq.mp hl) (by rw [sizeLine_eq]; decide), fun l hn => ?_⟩⟩
  refine k _ _ (l :: fp) (by rw [hx]; exact .lst upd_same (r1.same (Same.upd hn))) (List.nodup_cons.mpr ⟨fun z => r1.there z hn, n1⟩) (fun a ha => ?_) fun b o e n => ⟨(s1.trans (Same.upd hn)) b o e, id⟩
  rcases List.mem_cons.mp ha with z | z
  · exact .inr (by rw [z]; exact s1.free hn)
  · exact (k1 a z).imp (fun ⟨i, hi, z⟩ => by obtain ⟨d, hd⟩ := ow i hi; exact ⟨i, d, hd, z⟩) id
/-- y[j].append(e), y not read again -/
theorem sx_appIn {R : Type} [Ret R] {g : S → Gam} {t u : Type} [Enc t] [Enc u] {xs : List t} {x : u} {y : Str} {z : Int} {ds : List D} {pR p1 : Prop} {oR : Out S B R} {kx : Kd} (C : Cx0 X N sc) (i : Nat) (V : Vr N sc i y) (j : Nat) (hb : EX X G b True z .frs) (he : EX X G e pa x kx)
    (hR : SX X W (G.set i .no) rest pR g gb oR) (c1 : Cmb pa (LenOk (xs.length + 1)) p1) (c2 : Cmb p1 pR p) (h : G[i]? = some (.val true (.tup ds)) := by rfl) (hj : ixN ds.length z = some j := by rfl) (hx : ds[j]? = some (enc xs) := by rfl) (hps : PlainIx b := by exact fun _ _ => rfl)
    (hbase : attributeBase (.Subscript (.Name y ppos) b fpos) "append" X.env (eval (.Subscript (.Name y ppos) b fpos) X.env) = eval (.Subscript (.Name y ppos) b fpos) X.env := by rfl)
    (hfew : ((backTo cpos (starEach [e] X.env)).all (fun x => !x.1) && (backToKw cpos (keywordEach [] X.env)).all (fun x => x.1.isSome) && decide ([e].length + ([] : List Keyword).length + (if ([] : List Keyword).isEmpty then 0 else 1) < 30)) = true := by rfl)
    (hline : (apos.endLine == cpos.line) = true := by rfl) (hst : starEach [e] X.env = (false, eval e X.env) :: starEach [] X.env := by rfl) (hplain : (backTo cpos (starEach [] X.env)).any (·.1) = false := by rfl)
    (hs : swapsWith (.Call (.Attribute (.Subscript (.Name y ppos) b fpos) "append" apos) [e] [] cpos) none pos.line X.env = pure false := by rfl) :
    SX X W G (.Expr (.Call (.Attribute (.Subscript (.Name y ppos) b fpos) "append" apos) [e] [] cpos) pos :: rest) p g gb oR := by
  obtain ⟨te, h1, h2⟩ := he
  obtain ⟨tb, b1, b2⟩ := hb
  obtain ⟨ts, r1, r2⟩ := hR
  refine ⟨_, pss_cons (ps_expr (pe_bm PySem.F.plainAttrs_list PySem.F.slot_list_append PySem.F.type_list_append mt_append (pe_ix ix_tup (pe_slot C V) b1 hps) (pa_cons h1 pa_nil hst) hbase hfew hline hst hplain) hs) r1, fun σ H F D Rl hp k => ?_⟩
  obtain ⟨hp1, hpR⟩ := c2.out hp
  obtain ⟨hpa, hlen⟩ := c1.out hp1
  obtain ⟨v0, e0, r0⟩ := Rl.rep i _ _ h
  refine ⟨_, e0, b2 σ H F _ Rl trivial fun w H0 f0 s0 rz _ => ?_⟩
  obtain ⟨rfl, _⟩ := rz.int_inv
  obtain ⟨a0, vs, rfl, hH, rs⟩ := (r0.same s0).tup_inv
  obtain ⟨v, fv, ev, rv, sv, _⟩ := rs.get hx
  obtain ⟨l, zs, fl, rfl, hL, rl, e6⟩ := rv.lst_inv'
  refine ⟨a0, vs, z, .ref l, rfl, rfl, hH, by unfold atI; rw [rs.length, hj]; exact ev, .inl ⟨rfl, _, SqL.of hL⟩, h2 σ H0 F _ (Rl.same s0) hpa fun u' H1 fu s1 ru kd => ?_⟩
  have hln := rl.length
  rw [List.length_map] at hln
  refine ⟨l, zs, u', rfl, rfl, s1 _ _ hL, by unfold LenOk at hlen; omega, ?_⟩
  have hl : l ∈ F i := sv l (by rw [e6]; exact List.mem_cons_self)
  obtain ⟨q1, q2⟩ := Rl.dropMut (H' := upd H1 l (.lst (zs ++ [u']))) h fun b' o hb' n => ⟨by
    have hne : b' ≠ l := fun w => n (by rw [w]; exact hl)
    rw [upd_ne hne]
    exact s1 _ _ (s0 _ _ hb'), id⟩
  exact r2 _ _ _ D q1 hpR (k.of q2)
/-- y.append(e), y not read again -/
theorem sx_appOut {R : Type} [Ret R] {g : S → Gam} {t u : Type} [Enc t] [Enc u] {xs : List t} {x : u} {y : Str} {pR p1 : Prop} {oR : Out S B R} {kx : Kd} (C : Cx0 X N sc) (i : Nat) (V : Vr N sc i y) (he : EX X G e pa x kx)
    (hR : SX X W (G.set i .no) rest pR g gb oR) (c1 : Cmb pa (LenOk (xs.length + 1)) p1) (c2 : Cmb p1 pR p) (h : G[i]? = some (.val true (enc xs)) := by rfl)
    (hbase : attributeBase (.Name y ppos) "append" X.env (eval (.Name y ppos) X.env) = eval (.Name y ppos) X.env := by rfl)
    (hfew : ((backTo cpos (starEach [e] X.env)).all (fun x => !x.1) && (backToKw cpos (keywordEach [] X.env)).all (fun x => x.1.isSome) && decide ([e].length + ([] : List Keyword).length + (if ([] : List Keyword).isEmpty then 0 else 1) < 30)) = true := by rfl)
    (hline : (apos.endLine == cpos.line) = true := by rfl) (hst : starEach [e] X.env = (false, eval e X.env) :: starEach [] X.env := by rfl) (hplain : (backTo cpos (starEach [] X.env)).any (·.1) = false := by rfl)
    (hs : swapsWith (.Call (.Attribute (.Name y ppos) "append" apos) [e] [] cpos) none pos.line X.env = pure false := by rfl) :
    SX X W G (.Expr (.Call (.Attribute (.Name y ppos) "append" apos) [e] [] cpos) pos :: rest) p g gb oR := by
  obtain ⟨te, h1, h2⟩ := he
  obtain ⟨ts, r1, r2⟩ := hR
  refine ⟨_, pss_cons (ps_expr (pe_bm PySem.F.plainAttrs_list PySem.F.slot_list_append PySem.F.type_list_append mt_append (pe_slot C V) (pa_cons h1 pa_nil hst) hbase hfew hline hst hplain) hs) r1, fun σ H F D Rl hp k => ?_⟩
  obtain ⟨hp1, hpR⟩ := c2.out hp
  obtain ⟨hpa, hlen⟩ := c1.out hp1
  obtain ⟨v0, e0, r0⟩ := Rl.rep i _ _ h
  obtain ⟨l, zs, fl, rfl, hL, rl, e6⟩ := r0.lst_inv'
  refine ⟨_, e0, .inl ⟨rfl, _, SqL.of hL⟩, h2 σ H F _ Rl hpa fun u' H1 fu s1 ru kd => ?_⟩
  have hln := rl.length
  rw [List.length_map] at hln
  refine ⟨l, zs, u', rfl, rfl, s1 _ _ hL, by unfold LenOk at hlen; omega, ?_⟩
  have hl : l ∈ F i := by rw [e6]; exact List.mem_cons_self
  obtain ⟨q1, q2⟩ := Rl.dropMut (H' := upd H1 l (.lst (zs ++ [u']))) h fun b' o hb' n => ⟨by
    have hne : b' ≠ l := fun w => n (by rw [w]; exact hl)
    rw [upd_ne hne]
    exact s1 _ _ hb', id⟩
  exact r2 _ _ _ D q1 hpR (k.of q2)
end
end BW

set_option Elab.async false
set_option linter.all false
set_option maxRecDepth 100000
set_option maxHeartbeats 4000000
/-! What a writing method hands back, kept; a list turned round. -/
namespace BW
open PySem L2
section
variable {X : Cx} {G : Gam} {N : List Str} {sc : Scope} {e a b c : Expr} {es : List Expr} {p pa pb pr q : Prop} {pos ppos fpos apos cpos npos : Pos}
theorem Reps.flatL {K : PySem.W.Frag} {H : Hp} {t : Type} [Enc t] [Flat t] : ∀ {xs : List t} {fp : List Addr} {ws : List V}, Reps K H fp ws (xs.map enc) → fp = []
  | [], _, _, r => by cases r; rfl
  | x :: xs, _, _, r => by
    cases r with
    | cons h r => rw [Reps.flatL r, Flat.flat x h]; rfl
/-- xs[::-1] -/
theorem ex_revF {t : Type} [Enc t] [Flat t] {xs : List t} {k : Nat} {p1 p2 p3 : Pos} {kx : Kd} (ha : EX X G a p xs kx) : EX X G (.Subscript a (.Slice none none (some (.UnaryOp .USub (.Constant (.int 1) k p1) p2)) p3) pos) p xs.reverse .frs := by
  obtain ⟨ta, a1, a2⟩ := ha
  refine ⟨_, pe_revL a1, fun σ H F Q R hp k => a2 σ H F _ R hp fun v H1 fp s1 r1 k1 => ?_⟩
  obtain ⟨l, vs, fp', rfl, hq, rs, sub⟩ := r1.lst_inv
  refine ⟨l, vs, rfl, hq, fun l' hn => ?_⟩
  obtain rfl := rs.flatL
  refine k _ _ [l'] (s1.trans (Same.upd hn)) (.lst upd_same ?_) ⟨by simp, fun a ha => by rw [List.mem_singleton.mp ha]; exact s1.free hn⟩
  rw [List.map_reverse]
  exact (rs.revF).same (Same.upd hn)
variable {W : WX} {S B R : Type} [Ret R] {g : S → Gam} {gb : B → Gam} {rest : List Stmt} {cls : Str} {ks : List Str} {ds : List D} {w : Option Addr}
/-- z = o.m(..), m writes -/
theorem sx_methSet {A U : Type} [Enc U] {din : A → D} {encs : A → List D} {pre : A → Prop} {dout : A → D} {val : A → U} {k : Nat} {ps : List Str} {y m z : Str} {pR : U → Prop} {oR : U → Out S B R} {p1 : Prop} (C : Cxf X N sc) (i : Nat) (V : Vr N sc i y) (j : Nat) (Vz : Vs X N sc j z)
    (F : CalM X.prog X.w X.K X.mg X.base cls m k ps (spM X.K din encs pre dout val)) (hr : Room k X.A) (x : A) (ha : AX X G (e :: es) pa (encs x) .shr)
    (hR : ∀ u : U, SX X W ((G.set i (.val true (pinD w (dout x)))).set j (.val false (enc u))) rest (pR u) g gb (oR u)) (c1 : Cmb pa (pre x) p1) (c2 : Cmb p1 (lt (val x) pR) p) (h : G[i]? = some (.val true (.obj w cls ks ds)) := by rfl) (hd : din x = .obj none cls ks ds := by rfl) (hm : idx ks m = none := by rfl) (hl : Nat.blt j G.length = true := by rfl)
    (hst : starEach (e :: es) X.env = (false, eval e X.env) :: starEach es X.env := by rfl) (hpl : (backTo cpos (starEach es X.env)).any (·.1) = false := by rfl)
    {pl : Sem Bool} (ht : eval (.Call (.Attribute (.Name y ppos) m apos) (e :: es) [] cpos) X.env = (do
      let ov ← eval (.Name y ppos) X.env
      standAt apos.atName
      let (f, first) ← holding [ov] (getMethod ov m pl)
      callWith cpos f first (backTo cpos (starEach (e :: es) X.env)) (backToKw cpos (keywordEach [] X.env))) := by rfl)
    (hs : swapsWith (.Call (.Attribute (.Name y ppos) m apos) (e :: es) [] cpos) (some (.Name z npos)) pos.line X.env = pure false := by rfl) :
    SX X W G (.Assign [.Name z npos] (.Call (.Attribute (.Name y ppos) m apos) (e :: es) [] cpos) pos :: rest) p g gb (lt (val x) oR) := by
  obtain ⟨ta, a1, a2⟩ := ha
  obtain ⟨ts, r1, r2⟩ := hR (val x)
  obtain ⟨f, fd, hM, hb, F'⟩ := F.ex
  refine ⟨_, pss_cons (ps_set (by rw [C.hN]; exact C.nd) (by rw [C.hN]; exact Vz.ix) (by rw [C.hs]; exact Vz.loc) (pe_meth (E := fun _ _ _ => False) (pe_slot C V) F.kc hM F' hr hb .nil passL a1 hst hpl ht) hs (by rw [C.hs]; exact Vz.fn)) r1, fun σ H Fs D Rl hp k => ?_⟩
  obtain ⟨hp1, hpR⟩ := c2.out hp
  obtain ⟨hpa, hpx⟩ := c1.out hp1
  obtain ⟨v0, e0, r0⟩ := Rl.rep i _ _ h
  obtain ⟨a0, dx, vs0, fp0, rfl, hw, hH, hl', rs, eF⟩ := r0.obj_inv
  refine ⟨_, e0, a0, dx, _, rfl, hH, lookup_zipN hm, a2 σ H Fs _ Rl hpa fun vs H1 fp s1 rv kd => ?_⟩
  rw [List.append_nil]
  refine meth_post Rl h e0 hd s1 rv kd hpx fun v H' F' fr q1 q2 q3 q4 q5 q6 => ?_
  obtain ⟨b1, b2⟩ := q1.put (i := j) (m := false) (Same.refl _) q3 (by rw [List.length_set]; exact blt_lt hl) q5
  exact r2 _ _ _ D b1 hpR (k.of (q2.trans b2))
theorem sx_methSetV {A U : Type} [Enc U] {din : A → D} {encs : A → List D} {pre : A → Prop} {dout : A → D} {val : A → U} {k : Nat} {ps : List Str} {y m z : Str} {pR : U → Prop} {rR : U → R} {p1 : Prop} (C : Cxf X N sc) (i : Nat) (V : Vr N sc i y) (j : Nat) (Vz : Vs X N sc j z)
    (F : CalM X.prog X.w X.K X.mg X.base cls m k ps (spM X.K din encs pre dout val)) (hr : Room k X.A) (x : A) (ha : AX X G (e :: es) pa (encs x) .shr)
    (hR : ∀ u : U, SX X W ((G.set i (.val true (pinD w (dout x)))).set j (.val false (enc u))) rest (pR u) g gb (.ret (rR u) : Out S B R)) (c1 : Cmb pa (pre x) p1) (c2 : Cmb p1 (lt (val x) pR) p) (h : G[i]? = some (.val true (.obj w cls ks ds)) := by rfl) (hd : din x = .obj none cls ks ds := by rfl) (hm : idx ks m = none := by rfl) (hl : Nat.blt j G.length = true := by rfl)
    (hst : starEach (e :: es) X.env = (false, eval e X.env) :: starEach es X.env := by rfl) (hpl : (backTo cpos (starEach es X.env)).any (·.1) = false := by rfl)
    {pl : Sem Bool} (ht : eval (.Call (.Attribute (.Name y ppos) m apos) (e :: es) [] cpos) X.env = (do
      let ov ← eval (.Name y ppos) X.env
      standAt apos.atName
      let (f, first) ← holding [ov] (getMethod ov m pl)
      callWith cpos f first (backTo cpos (starEach (e :: es) X.env)) (backToKw cpos (keywordEach [] X.env))) := by rfl)
    (hs : swapsWith (.Call (.Attribute (.Name y ppos) m apos) (e :: es) [] cpos) (some (.Name z npos)) pos.line X.env = pure false := by rfl) :
    SX X W G (.Assign [.Name z npos] (.Call (.Attribute (.Name y ppos) m apos) (e :: es) [] cpos) pos :: rest) p g gb (.ret (lt (val x) rR) : Out S B R) :=
  sx_methSet (oR := fun u => (.ret (rR u) : Out S B R)) C i V j Vz F hr x ha hR c1 c2 h hd hm hl hst hpl ht hs
theorem sx_methSetF {A U : Type} [Enc U] {din : A → D} {encs : A → List D} {pre : A → Prop} {dout : A → D} {val : A → U} {k : Nat} {ps : List Str} {y m z : Str} {pR : U → Prop} {rR : U → S} {p1 : Prop} (C : Cxf X N sc) (i : Nat) (V : Vr N sc i y) (j : Nat) (Vz : Vs X N sc j z)
    (F : CalM X.prog X.w X.K X.mg X.base cls m k ps (spM X.K din encs pre dout val)) (hr : Room k X.A) (x : A) (ha : AX X G (e :: es) pa (encs x) .shr)
    (hR : ∀ u : U, SX X W ((G.set i (.val true (pinD w (dout x)))).set j (.val false (enc u))) rest (pR u) g gb (.fall (rR u) : Out S B R)) (c1 : Cmb pa (pre x) p1) (c2 : Cmb p1 (lt (val x) pR) p) (h : G[i]? = some (.val true (.obj w cls ks ds)) := by rfl) (hd : din x = .obj none cls ks ds := by rfl) (hm : idx ks m = none := by rfl) (hl : Nat.blt j G.length = true := by rfl)
    (hst : starEach (e :: es) X.env = (false, eval e X.env) :: starEach es X.env := by rfl) (hpl : (backTo cpos (starEach es X.env)).any (·.1) = false := by rfl)
    {pl : Sem Bool} (ht : eval (.Call (.Attribute (.Name y ppos) m apos) (e :: es) [] cpos) X.env = (do
      let ov ← eval (.Name y ppos) X.env
      standAt apos.atName
      let (f, first) ← holding [ov] (getMethod ov m pl)
      callWith cpos f first (backTo cpos (starEach (e :: es) X.env)) (backToKw cpos (keywordEach [] X.env))) := by rfl)
    (hs : swapsWith (.Call (.Attribute (.Name y ppos) m apos) (e :: es) [] cpos) (some (.Name z npos)) pos.line X.env = pure false := by rfl) :
    SX X W G (.Assign [.Name z npos] (.Call (.Attribute (.Name y ppos) m apos) (e :: es) [] cpos) pos :: rest) p g gb (.fall (lt (val x) rR) : Out S B R) :=
  sx_methSet (oR := fun u => (.fall (rR u) : Out S B R)) C i V j Vz F hr x ha hR c1 c2 h hd hm hl hst hpl ht hs
end
end BW

set_option Elab.async false
set_option linter.all false
set_option maxRecDepth 100000
set_option maxHeartbeats 4000000
/-! Exceptions raised where nothing is handled; a suite that raises another one; a suite without a name. -/
namespace BW
open PySem L2
/-- a def whose exceptions have no context -/
structure CalN (P : Program) (w : World) (K : PySem.W.Frag) (mg : Str → Option Value) (base : Heap) (x : Str) (k : Nat) (ps : List Str) (sp : Sp) : Prop where
  ex : ∃ f fd, mg x = some (.ref f) ∧ PySem.W.keepIn K (.ref f) = true ∧ Binds K fd ps [] ∧ FnOk P w K mg base (L2N.CX P w) k f fd ps sp
section
variable {P : Program} {w : World} {K : PySem.W.Frag} {mg : Str → Option Value} {base : Heap} {x qual : Str} {params : Arguments} {body : List Stmt} {sc : Scope} {f : Addr} {fd : FuncData} {N ps : List Str}
theorem CalN.cal {k : Nat} {sp : Sp} (h : CalN P w K mg base x k ps sp) : Cal P w K mg base x k ps sp := by
  obtain ⟨f, fd, h1, h2, h3, h4⟩ := h.ex
  refine ⟨f, fd, h1, h2, h3, h4.len, fun A outer s H args us vs Q E hr he hb hv hs => codeAny_mono (h4.run A outer s H args us vs Q E hr he hb hv hs) fun r s' hq => ?_⟩
  cases r with
  | error e =>
    obtain ⟨a, B, H', cls, d, q1, q2, q3⟩ := hq
    exact ⟨a, B, H', cls, d, q1, L2H.flyingZ_imp (fun o z => L2N.Zn.zc z) q2, q3⟩
  | ok fl => cases fl <;> exact hq
theorem fn_okN {k : Nat} {A R : Type} [Enc R] {encs : A → List D} {pre : A → Prop} {o : A → Out Empty Empty R} (F : FunD K x qual params body sc [] [] f fd) (S : FnScope N ps sc) (hlen : ∀ a, (encs a).length = ps.length)
    (hbody : ∀ (cdv : Value) (A' : Around) (outer : List PySem.Env) (s : Shared) (H : Hp) (E : XK), Room k (A'.deeper (PyProof.Rows.envOfC qual sc s.heap.objs.size f cdv)) → ∀ a : A, SX (cxOf (L2N.CX P w) P w K mg base N qual sc f cdv A' outer s H E) (WO E) (g0 N.length (encs a)) body (pre a) noG noG (o a)) :
    FnOk P w K mg base (L2N.CX P w) (k + 1) f fd ps (spR K mg encs pre fun a => outV (o a)) := by
  refine F.ok S (fun vs H Q E ⟨a, fp, r, _⟩ => by rw [r.length, hlen]) fun cdv A' outer s H vs Q E hr ⟨a, fp, r, hp, hk⟩ => ?_
  obtain ⟨ts, h1, h2⟩ := hbody cdv A' outer s H E hr a
  obtain ⟨F0, R0, n0⟩ := rel0 N r
  refine ⟨ts, h1, h2 _ H F0 _ R0 hp ?_⟩
  have hk : RPost K mg H Q E (outV (o a)) := hk
  generalize o a = oo at hk ⊢
  cases oo with
  | fall s => exact nomatch s
  | brk s => exact nomatch s
  | cnt s => exact nomatch s
  | ret r => exact fun v H' fp' r' n ha f => hk v H' fp' (fun b o e => (f b o e (n0 b)).1) r' n fun a z => (ha a z).elim (fun z => absurd z (n0 a)) id
  | exc c => exact fun σ' H' u hm f => hk H' u hm fun b o e => (f b o e (n0 b)).1
theorem fn_okUN {k : Nat} {A : Type} {encs : A → List D} {pre : A → Prop} {o : A → Out Unit Empty Unit} {g : Unit → Gam} (F : FunD K x qual params body sc [] [] f fd) (S : FnScope N ps sc) (hlen : ∀ a, (encs a).length = ps.length)
    (hbody : ∀ (cdv : Value) (A' : Around) (outer : List PySem.Env) (s : Shared) (H : Hp) (E : XK), Room k (A'.deeper (PyProof.Rows.envOfC qual sc s.heap.objs.size f cdv)) → ∀ a : A, SX (cxOf (L2N.CX P w) P w K mg base N qual sc f cdv A' outer s H E) (WO E) (g0 N.length (encs a)) body (pre a) g noG (o a)) :
    FnOk P w K mg base (L2N.CX P w) (k + 1) f fd ps (spR K mg encs pre fun a => outU (o a)) := by
  refine F.ok S (fun vs H Q E ⟨a, fp, r, _⟩ => by rw [r.length, hlen]) fun cdv A' outer s H vs Q E hr ⟨a, fp, r, hp, hk⟩ => ?_
  obtain ⟨ts, h1, h2⟩ := hbody cdv A' outer s H E hr a
  obtain ⟨F0, R0, n0⟩ := rel0 N r
  refine ⟨ts, h1, h2 _ H F0 _ R0 hp ?_⟩
  have hk : RPost K mg H Q E (outU (o a)) := hk
  generalize o a = oo at hk ⊢
  cases oo with
  | fall s => exact fun σ' H' F' R' f => hk .non H' [] (fun b o e => (f b o e (n0 b)).1) .non List.nodup_nil fun _ h => nomatch h
  | brk s => exact nomatch s
  | cnt s => exact nomatch s
  | ret r => exact fun v H' fp' r' n ha f => hk v H' fp' (fun b o e => (f b o e (n0 b)).1) r' n fun a z => (ha a z).elim (fun z => absurd z (n0 a)) id
  | exc c => exact fun σ' H' u hm f => hk H' u hm fun b o e => (f b o e (n0 b)).1
theorem cal_mkN {k : Nat} {A R : Type} [Enc R] {encs : A → List D} {pre pre' : A → Prop} {val val' : A → Except Str R} (F : FunD K x qual params body sc [] [] f fd) (hm : mg x = some (.ref f)) (hb : Binds K fd ps [])
    (h : FnOk P w K mg base (L2N.CX P w) k f fd ps (spR K mg encs pre val)) (hi : ∀ a, pre' a → pre a ∧ val a = val' a) : CalN P w K mg base x k ps (spR K mg encs pre' val') :=
  ⟨f, fd, hm, F.kp, hb, h.imp (spR_imp hi)⟩
end
section
variable {X : Cx} {G : Gam} {N : List Str} {sc : Scope} {e a b c : Expr} {es : List Expr} {p pa pb pr q : Prop} {pos ppos : Pos}
variable {W : WX} {S B R : Type} [Ret R] {g : S → Gam} {gb : B → Gam} {rest : List Stmt}
theorem er_callN {x : Str} {k : Nat} {ps : List Str} {A R' : Type} [Enc R'] {encs : A → List D} {pre : A → Prop} {val : A → Except Str R'} (C : Cxf X N sc) (tk : L2N.Takes X W) (F : CalN X.prog X.w X.K X.mg X.base x k ps (spR X.K X.mg encs pre val)) (hr : Room k X.A) (hg : sc.names.lookup x = some .globalImplicit)
    (y : A) {kk : Kd} (ha : AX X G (e :: es) pa (encs y) kk) (c1 : Cmb pa (pre y) p) (hdb : (x == ("__debug__" : Str)) = false := by decide) (he : starEach (e :: es) X.env = (false, eval e X.env) :: starEach es X.env := by rfl) (hpl : (backTo pos (starEach es X.env)).any (·.1) = false := by rfl) :
    ER X W G (.Call (.Name x ppos) (e :: es) [] pos) p (val y) .frs := by
  obtain ⟨ta, a1, a2⟩ := ha
  obtain ⟨f, fd, hm, hk, hb, F⟩ := F.ex
  refine ⟨_, pe_callSD (E := WE W) F hr (C.gl hg) hm hk hb .nil (L2N.passAt tk) a1 hdb he hpl, fun σ H F Q R hp q => ?_⟩
  obtain ⟨hpa, hpr⟩ := c1.out hp
  refine a2 σ H F _ R hpa fun vs H1 fp s1 r1 _ => ?_
  rw [List.append_nil]
  refine ⟨y, fp, r1, hpr, ?_⟩
  generalize val y = r at q ⊢
  cases r with
  | error c => exact fun H' u hm s => q H' u hm (s1.trans s)
  | ok r => exact fun v H' fp' s r n f => q v H' fp' (s1.trans s) r ⟨n, fun a ha => s1.free (f a ha)⟩
theorem sx_raiseN {x m : Str} {j : Nat} {p1 p2 cpos : Pos} (C : Cxf X N sc) (tk : L2N.Takes X W) (E : ExF X x) (hg : sc.names.lookup x = some .globalImplicit) (hdb : (x == ("__debug__" : Str)) = false := by decide) :
    SX X W G (.Raise (some (.Call (.Name x p1) [.Constant (.str m) j p2] [] cpos)) none pos :: rest) True g gb (.exc x : Out S B R) := by
  obtain ⟨c, gC, xC, kC, bC, tC⟩ := E.ex
  refine ⟨_, pss_cons (L2N.ps_raise C.calm tk (L2N.pmk_own PySem.F.excBase_ValueError xC gC kC (raises_own bC tC) (C.gl hg) hdb)) pss_never, fun σ H F D Rl _ k => ?_⟩
  exact k σ H _ gC fun b o e n => ⟨e, id⟩
/-- X('m'), its record with all its fields -/
theorem made5 {x m : Str} {j : Nat} {p1 p2 cpos : Pos} {C : Addr} (xC : PySem.W.excIn X.K C [.type "ValueError", .type "Exception", .type "BaseException", .type "object"] "ValueError.__new__" = true) (gC : X.mg x = some (.ref C)) (kC : PySem.W.keepIn X.K (.ref C) = true)
    (r : Raises X (.ref C)) (hg : Gl X x) (hdb : (x == ("__debug__" : Str)) = false) : L2H.PMk5 X (.Call (.Name x p1) [.Constant (.str m) j p2] [] cpos) (fun _ H Q => Q (.ref C) none H) := fun pins s σ H Q I q => by
  have args : PA X [.Constant (.str m) j p2] (tCons (tC (.str m)) tNil) := pa_cons pe_str pa_nil
  refine wpAny_Call_Name_kw (ld_glob I hg gC ?_ hdb)
  refine PySem.W.callWith_K (h₀ := X.base) I.ok.mod.kin kC (thn (args.run cpos pins s σ H (fun vs H1 => vs = [V.str m] ∧ H = H1) I ⟨rfl, rfl⟩) ?_)
  rintro us s1 ⟨vs, H1, I1, rv, rfl, eH⟩
  rw [← eH] at I1
  refine ⟨I1.kIn, ?_⟩
  obtain ⟨u, rfl, _⟩ := vals1 rv
  obtain ⟨bm, N', nm, qn, bs, hdct, sn, sub, ab, col, dd, k0, k1, k2, k3, k5, mN, hC, hN, hni, T⟩ := exc_obj I1.kIn xC
  show wpAny _ _ (call (.ref C) [u]) _ _ _
  refine wpAny_call_exc_subT PySem.F.excBase_ValueError T hC hN hni (fun h' e made => ?_) (by rw [sizeLine_eq]; show 1 ≤ 16777216; decide)
  exact L2H.mk_of5 I1 made r q (I1.hok.gone made.new)
def TBN (X : Cx) (G : Gam) (body : List Stmt) (p : Prop) {T : Type} (r : Except Str T) (g : T → Gam) : Prop :=
  ∀ (W : WX) (pn : List (Addr × PySem.Obj)) (xe : Value → Shared → Prop), L2N.Takes (X.tr pn xe) W → PSs (X.tr pn xe) body (tTB X.K X.mg G p r g W)
theorem tb_exprN {t : Type} [Enc t] {r : Except Str t} {k : Kd} (he : ∀ (W : WX) pn xe, L2N.Takes (X.tr pn xe) W → ER (X.tr pn xe) W G e p r k) (hs : swapsWith e none pos.line X.env = pure false := by rfl) :
    TBN X G [.Expr e pos] p (r.map fun _ => ()) (fun _ : Unit => G) := fun W pn xe tk => by
  obtain ⟨te, h1, h2⟩ := he W pn xe tk
  have h := pss_cons (ps_expr h1 hs) (pss_nil (X := X.tr pn xe))
  refine ⟨fun pins s σ H D I hw => ?_⟩
  obtain ⟨F, Rl, hp, q⟩ := hw
  refine h.run pins s σ H D I (h2 σ H F _ Rl hp ?_)
  cases r with
  | ok x => exact fun v H' fp s' _ _ => q σ H' F (Rl.same s') (Rl.frm s')
  | error c => exact fun H' u hm s' => q H' u hm s'
theorem tb_setN {t : Type} [Enc t] {r : Except Str t} {y : Str} (m : Bool) (C : Cxf X N sc) (i : Nat) (V : ∀ pn xe, Vs (X.tr pn xe) N sc i y) (he : ∀ (W : WX) pn xe, L2N.Takes (X.tr pn xe) W → ER (X.tr pn xe) W G e p r .frs) (hl : Nat.blt i G.length = true := by rfl)
    (hs : swapsWith e (some (.Name y ppos)) pos.line X.env = pure false := by rfl) : TBN X G [.Assign [.Name y ppos] e pos] p r (fun x : t => G.set i (.val m (enc x))) := fun W pn xe tk => by
  obtain ⟨te, h1, h2⟩ := he W pn xe tk
  have C' := C.tr pn xe
  have V' := V pn xe
  have h := pss_cons (ps_set (X := X.tr pn xe) (i := i) (by rw [C'.hN]; exact C'.nd) (by rw [C'.hN]; exact V'.ix) (by rw [C'.hs]; exact V'.loc) h1 hs (by rw [C'.hs]; exact V'.fn)) (pss_nil (X := X.tr pn xe))
  refine ⟨fun pins s σ H D I hw => ?_⟩
  obtain ⟨F, Rl, hp, q⟩ := hw
  refine h.run pins s σ H D I (h2 σ H F _ Rl hp ?_)
  cases r with
  | error c => exact fun H' u hm s' => q H' u hm s'
  | ok x =>
    intro v H' fp s' rv kd
    cases m with
    | true =>
      obtain ⟨a1, a2⟩ := Rl.put (i := i) (m := true) s' rv (blt_lt hl) kd
      exact q _ H' _ a1 a2
    | false =>
      obtain ⟨a1, a2⟩ := Rl.put (i := i) (m := false) s' rv (blt_lt hl) (Rl.shrN (KdOk.shr_of kd))
      exact q _ H' _ a1 a2
theorem tb_mapN {T U : Type} {body : List Stmt} {r : Except Str T} {g : T → Gam} {g2 : U → Gam} (f : T → U) (h : TBN X G body p r g) (w : ∀ s, Wk (g s) (g2 (f s))) : TBN X G body p (r.map f) g2 := fun W pn xe tk => by
  have h1 := h W pn xe tk
  refine ⟨fun pins s σ H D I hw => h1.run pins s σ H D I ?_⟩
  obtain ⟨F, Rl, hp, q⟩ := hw
  refine ⟨F, Rl, hp, ?_⟩
  cases r with
  | ok x => exact fun σ' H' F' R' f' => q σ' H' F' ((w x).rel R') (f'.trans (w x).frm)
  | error c => exact q
/-- what is raised becomes another one -/
def rethrow {T B R : Type} (z : Str) : Except Str T → Out T B R
  | .ok s => .fall s
  | .error _ => .exc z
theorem s1_tryRaise {T : Type} {x z m : Str} {L Ts : List Str} {body : List Stmt} {np pos' p1 p2 p3 cpos rpos : Pos} {j j' : Nat} {r : Except Str T} {g : T → Gam} (C : Cxf X N sc) (hst : X.stack = X.env :: X.outer) (hfr : X.env.frame = some X.env.locals)
    (ownH : ∀ hd : Option Value, PassesOwnAt (model X.prog X.w) (X.A.mark hd) X.A X.env X.xe) (tk : Takes X W) (E : ExR X.K X.mg L x Ts) (Ez : ExF X z) (hb : TBN X G body pb r g)
    (hgx : sc.names.lookup x = some .globalImplicit := by rfl) (hgz : sc.names.lookup z = some .globalImplicit := by rfl) (hdx : (x == ("__debug__" : Str)) = false := by decide) (hdz : (z == ("__debug__" : Str)) = false := by decide) :
    S1 X W G (.Try body [.ExceptHandler (some (.Name x np)) none [.Raise (some (.Call (.Name z p1) [.Constant (.str m) j p2] [] cpos)) (some (.Constant .none j' p3)) rpos] pos'] [] [] pos) (pb ∧ ErrIn L r) g gb (rethrow z r : Out T B R) := by
  obtain ⟨A, hA, hL⟩ := E.cat
  obtain ⟨c, gC, xC, kC, bC, tC⟩ := Ez.ex
  refine ⟨_, L2H.ps_try_onlyX (ts := fun _ _ _ _ σ H => W (.ref c) none σ H) hst hfr ⟨C.gl hgx, hdx, .inl hA⟩ ownH tk (fun W' pn xe tk' _ _ => hb W' pn xe tk') (fun a oe cls d pn hz hf tkS hot => ?_), fun σ H F D Rl hp k => ?_⟩
  · have h5 : L2H.PMk5 (L2H.suiteX X a ((a, oe) :: pn)) (.Call (.Name z p1) [.Constant (.str m) j p2] [] cpos) (fun _ H Q => Q (.ref c) none H) := made5 (X := L2H.suiteX X a ((a, oe) :: pn)) xC gC kC (raises_own bC tC) (C.gl hgz) hdz
    have hs := pss_cons (L2H.ps_raiseHN (j := j') (cpos := p3) (pos := rpos) hot tkS h5) (pss_never (X := L2H.suiteX X a ((a, oe) :: pn)) (sts := []))
    exact ⟨fun pins s σ H D I hw => hs.run pins s σ H D I hw⟩
  · refine ⟨F, Rl, hp.1, ?_⟩
    cases r with
    | ok s => exact k
    | error c' =>
      intro H' u hm s'
      obtain ⟨Dc, h1, h2, h3⟩ := hL c' hp.2
      have eu : u = .ref Dc := by rw [h1] at hm; exact (Option.some.inj hm).symm
      subst eu
      exact ⟨true, h3, fun _ z' hz => k σ H' _ gC fun b o e n => ⟨s' b o e, id⟩, nofun⟩
def tsO (X : Cx) (G : Gam) {T : Type} (g : T → Gam) (v : T) (L : List Str) : Addr → Value → Option Addr → TS := fun x cls d D σ H =>
  d = none ∧ ∃ (c : Str) (A : Addr) (F : Nat → List Addr), c ∈ L ∧ X.mg c = some (.ref A) ∧ cls = .ref A ∧ ExcC X.K A ∧ Rel X.K G σ H F ∧
    ∀ σ' H' F', Rel X.K (g v) σ' H' F' → Frm (InO G F) H (InO (g v) F') H' → D.nx σ' H'
theorem s1_tryOnly {T : Type} {x : Str} {L Ts : List Str} {body suite : List Stmt} {b0 : Stmt} {np pos' : Pos} {r : Except Str T} {g : T → Gam} {v : T} (C : Cxf X N sc) (hst : X.stack = X.env :: X.outer) (hfr : X.env.frame = some X.env.locals) (tk : Takes X W) (E : ExR X.K X.mg L x Ts) (hb : TB X G body pb r g)
    (hsu : ∀ (x : Addr) (oe : PySem.Obj) (A : Addr) (pn : List (Addr × PySem.Obj)) (c : Str), Su X L x oe c A → SX (X.suite x ((x, oe) :: pn)) (fun _ _ _ _ => False) G (b0 :: suite) True g noG (.fall v : Out T Empty Unit))
    (hgx : sc.names.lookup x = some .globalImplicit := by rfl) (hdx : (x == ("__debug__" : Str)) = false := by decide) :
    S1 X W G (.Try body [.ExceptHandler (some (.Name x np)) none (b0 :: suite) pos'] [] [] pos) (pb ∧ ErrIn L r) g gb (.fall (tryV r fun _ => v) : Out T B R) := by
  obtain ⟨A, hA, hL⟩ := E.cat
  refine ⟨_, ps_try_only (ts := tsO X G g v L) hst hfr ⟨C.gl hgx, hdx, .inl hA⟩ tk (fun W' pn xe tk' _ => hb W' pn xe tk') (fun z oe cls d pn hz hf => ?_), fun σ H F D Rl hp k => ?_⟩
  · refine ⟨fun pins s σ H D I hw => ?_⟩
    obtain ⟨hd, c, Ad, F, hc, hm, hcls, CC, R', q⟩ := hw
    subst hd hcls
    obtain ⟨ts, t1, t2⟩ := hsu z oe Ad pn c ⟨hc, hm, hz, hf, CC⟩
    exact t1.run pins s σ H D I (t2 σ H F D R' trivial q)
  · refine ⟨F, Rl, hp.1, ?_⟩
    cases r with
    | ok s => exact k
    | error c =>
      intro H' u hm s'
      obtain ⟨Dc, h1, h2, h3⟩ := hL c hp.2
      have eu : u = .ref Dc := by rw [h1] at hm; exact (Option.some.inj hm).symm
      subst eu
      exact ⟨true, h3, fun _ z hz => ⟨rfl, c, Dc, F, hp.2, h1, rfl, h2, Rl.same s', fun σ2 H2 F2 R2 f2 => k σ2 H2 F2 R2 ((Rl.frm s').trans f2)⟩, nofun⟩
end
end BW

set_option Elab.async false
set_option linter.all false
set_option maxRecDepth 100000
set_option maxHeartbeats 4000000
/-! What may raise, within a pair, put behind a list. -/
namespace BW
open PySem L2
section
variable {X : Cx} {G : Gam} {N : List Str} {sc : Scope} {e a b c : Expr} {es : List Expr} {p pa pb pr q : Prop} {pos ppos : Pos}
variable {W : WX} {S B R : Type} [Ret R] {g : S → Gam} {gb : B → Gam} {rest : List Stmt}
theorem er_pair {t u : Type} [Enc t] [Enc u] {x : t} {r : Except Str u} {kk : Nat} (ha : EX X G a pa x .frs) (hb : ER X W G b pb r .frs) (c1 : Cmb pa pb p)
    (hs1 : starEach [a, b] X.env = (false, eval a X.env) :: starEach [b] X.env := by rfl) (hs2 : starEach [b] X.env = (false, eval b X.env) :: starEach [] X.env := by rfl) :
    ER X W G (.Tuple [a, b] kk pos) p (r.map fun y => (x, y)) .frs := by
  obtain ⟨ta, a1, a2⟩ := ha
  obtain ⟨tb, b1, b2⟩ := hb
  refine ⟨_, pe_tup (pa_cons a1 (pa_cons b1 pa_nil hs2) hs1), fun σ H F Q R hp k => ?_⟩
  obtain ⟨hpa, hpb⟩ := c1.out hp
  refine a2 σ H F _ R hpa fun v H1 fp s1 r1 k1 => ?_
  refine b2 σ H1 F _ (R.same s1) hpb ?_
  cases r with
  | error c => exact fun H' u hm s => k H' u hm (s1.trans s)
  | ok y =>
    intro w H2 fp2 s2 r2 k2
    refine ⟨by rw [sizeLine_eq]; show 2 ≤ 16777216; decide, fun l hn => ?_⟩
    have r3 : Reps X.K (upd H2 l (.tup [v, w])) (fp ++ (fp2 ++ [])) [v, w] [enc x, enc y] := (Reps.cons (r1.same s2) (Reps.cons r2 .nil)).same (Same.upd hn)
    rw [List.append_nil] at r3
    refine k _ _ (fp ++ fp2) (s1.trans (s2.trans (Same.upd hn))) (.tup (SqT.of upd_same) r3) ⟨List.nodup_append.mpr ⟨k1.1, k2.1, fun a ha b hb e => ?_⟩, fun a ha => (List.mem_append.mp ha).elim (k1.2 a) fun z => s1.free (k2.2 a z)⟩
    subst e
    exact r1.there ha (k2.2 a hb)
theorem sx_appendE {t : Type} [Enc t] {xs : List t} {r : Except Str t} {y : Str} {apos cpos npos : Pos} {pR : List t → Prop} {oR : List t → Out S B R} {p1 : Prop} (C : Cx0 X N sc) (i : Nat) (V : Vr N sc i y) (he : ER X W G e pa r .frs)
    (hR : ∀ zs : List t, SX X W (G.set i (.val true (enc zs))) rest (pR zs) g gb (oR zs)) (c1 : Cmb pa (LenOk (xs.length + 1)) p1) (c2 : Cmb p1 (exP r fun x => lt (xs ++ [x]) pR) p) (h : G[i]? = some (.val true (enc xs)) := by rfl) (hbase : attributeBase (.Name y npos) "append" X.env (eval (.Name y npos) X.env) = eval (.Name y npos) X.env := by rfl)
    (hfew : ((backTo cpos (starEach [e] X.env)).all (fun x => !x.1) && (backToKw cpos (keywordEach [] X.env)).all (fun x => x.1.isSome) && decide ([e].length + ([] : List Keyword).length + (if ([] : List Keyword).isEmpty then 0 else 1) < 30)) = true := by rfl)
    (hline : (apos.endLine == cpos.line) = true := by rfl) (hst : starEach [e] X.env = (false, eval e X.env) :: starEach [] X.env := by rfl) (hplain : (backTo cpos (starEach [] X.env)).any (·.1) = false := by rfl)
    (hs : swapsWith (.Call (.Attribute (.Name y npos) "append" apos) [e] [] cpos) none pos.line X.env = pure false := by rfl) :
    SX X W G (.Expr (.Call (.Attribute (.Name y npos) "append" apos) [e] [] cpos) pos :: rest) p g gb (exThen r fun x => lt (xs ++ [x]) oR) := by
  obtain ⟨te, h1, h2⟩ := he
  refine ⟨_, pss_cons (ps_expr (pe_bm PySem.F.plainAttrs_list PySem.F.slot_list_append PySem.F.type_list_append mt_append (pe_slot C V) (pa_cons h1 pa_nil hst) hbase hfew hline hst hplain) hs) (SX.canon hR), fun σ H F D Rl hp k => ?_⟩
  obtain ⟨hp1, hpR⟩ := c2.out hp
  obtain ⟨hpa, hlen⟩ := c1.out hp1
  obtain ⟨v, ev, rv⟩ := Rl.rep i _ _ h
  have hnd := Rl.nd i _ h
  obtain ⟨l, vs, fpi, rfl, hl, rs, eF⟩ := rv.lst_inv'
  rw [eF] at hnd
  refine ⟨_, ev, .inl ⟨rfl, _, SqL.of hl⟩, h2 σ H F _ Rl hpa ?_⟩
  cases r with
  | error c => exact fun H' u hm s => k σ H' u hm fun b o e n => ⟨s b o e, id⟩
  | ok x =>
    intro w H1 fp s1 r1' kd
    have hl1 := s1 _ _ hl
    have rs1 := rs.same s1
    have e1 := rs.length
    rw [List.length_map] at e1
    refine ⟨l, vs, w, rfl, rfl, hl1, by unfold LenOk at hlen; omega, ?_⟩
    have rn : Reps X.K H1 (fpi ++ fp) (vs ++ [w]) ((xs ++ [x]).map enc) := by
      have rb := Reps.cons r1' .nil
      rw [List.append_nil] at rb
      have q := rs1.append rb
      rw [List.map_append]
      exact q
    have nd : (l :: (fpi ++ fp)).Nodup := by
      refine List.nodup_cons.mpr ⟨fun z => ?_, List.nodup_append.mpr ⟨(List.nodup_cons.mp hnd).2, kd.1, fun a ha b hb e => ?_⟩⟩
      · rcases List.mem_append.mp z with z | z
        · exact (List.nodup_cons.mp hnd).1 z
        · rw [kd.2 l z] at hl; cases hl
      · subst e; exact rs.there ha (kd.2 a hb)
    obtain ⟨q1, q2⟩ := own_upd Rl s1 h ev eF hl1 rn nd fun a ha => (List.mem_append.mp ha).imp id (kd.2 a)
    exact ⟨xs ++ [x], _, q1, hpR, OutOk.of (show OutOk X W G F H g gb D (oR (xs ++ [x])) from k) q2⟩
end
end BW

set_option Elab.async false
set_option linter.all false
set_option maxRecDepth 100000
set_option maxHeartbeats 4000000
/-! sorted of whole numbers. -/
namespace BW
open PySem L2
def sortI (xs : List Int) : List Int := xs.mergeSort (fun a b => decide (a ≤ b))
theorem sortI_perm (xs : List Int) : (sortI xs).Perm xs := List.mergeSort_perm xs _
theorem sortI_sorted (xs : List Int) : (sortI xs).Pairwise (· ≤ ·) := by
  have := List.pairwise_mergeSort (le := fun a b : Int => decide (a ≤ b)) (fun a b c h1 h2 => by simp only [decide_eq_true_eq] at *; omega) (fun a b => by simp only [Bool.or_eq_true, decide_eq_true_eq]; omega) xs
  exact this.imp fun h => of_decide_eq_true h
theorem sortI_eq {xs ys : List Int} (h1 : ys.Perm xs) (h2 : ys.Pairwise (· ≤ ·)) : ys = sortI xs :=
  List.Perm.eq_of_pairwise (le := (· ≤ ·)) (fun a b _ _ h h' => Int.le_antisymm h h') h2 (sortI_sorted xs) (h1.trans (sortI_perm xs).symm)
section
variable {X : Cx} {G : Gam} {N : List Str} {sc : Scope} {e a b c : Expr} {es : List Expr} {p pa pb pr q : Prop} {pos ppos : Pos}
theorem ex_sortedI (C : Cxf X N sc) (hg : sc.names.lookup ("sorted" : Str) = some .globalImplicit) (hm : X.mg "sorted" = none) {xs : List Int} {k : Kd} (ha : EX X G e p xs k) (hs : starEach [e] X.env = (false, eval e X.env) :: starEach [] X.env := by rfl) :
    EX X G (.Call (.Name "sorted" ppos) [e] [] pos) p (sortI xs) .frs := by
  obtain ⟨ta, a1, a2⟩ := ax1 ha hs
  refine ⟨_, pe_callB cr_sortedI (C.gl hg) hm (by decide +kernel) a1 (by decide) (by decide) hs rfl, fun σ H F Q R hp q => ?_⟩
  refine a2 σ H F _ R hp fun vs H1 fp s1 r1 _ => ?_
  obtain ⟨v, rfl, rv⟩ := r1.one
  obtain ⟨l, ws, fp', rfl, hq, rs, _⟩ := rv.lst_inv
  obtain ⟨rfl, rfl⟩ := Reps.ints rs
  refine ⟨l, xs, rfl, hq, fun ns' p' h1 h2 hn => ?_⟩
  obtain rfl := sortI_eq h1 h2
  refine q _ _ [p'] (s1.trans (Same.upd hn)) (.lst upd_same ((Reps.of_ints _).same (Same.upd hn))) ⟨by simp, fun a ha => by rw [List.mem_singleton.mp ha]; exact s1.free hn⟩
end
end BW

set_option Elab.async false
set_option linter.all false
set_option maxRecDepth 100000
set_option maxHeartbeats 4000000
/-! Marks: a dict whose keys are whole numbers, each item True. -/
namespace BW
open PySem L2
structure Mrk where
  ks : List Int
deriving DecidableEq
instance : Enc Mrk := ⟨fun d => .dic (d.ks.map Sum.inl) (d.ks.map fun _ => .bl true)⟩
def Mrk.put (d : Mrk) (k : Int) : Mrk := ⟨if d.ks.contains k = true then d.ks else d.ks ++ [k]⟩
def mkv (ks : List Int) : List (Key × V) := ks.map fun k => (.inl k, .bl true)
section
variable {K : PySem.W.Frag} {H : Hp} {fp : List Addr} {v : V}
theorem reps_marks : ∀ {fp : List Addr} {vs : List V} {ks : List Int}, Reps K H fp vs (ks.map fun _ => .bl true) → ((ks.map Sum.inl : List Key).zip vs) = mkv ks ∧ fp = []
  | _, _, [], r => by cases r; exact ⟨rfl, rfl⟩
  | _, _, k :: ks, r => by
    cases r with
    | cons h r =>
      obtain ⟨rfl, rfl⟩ := h.bl_inv
      obtain ⟨e1, e2⟩ := reps_marks r
      subst e2
      exact ⟨by rw [List.map_cons, List.zip_cons_cons, e1]; rfl, rfl⟩
theorem reps_of_marks : ∀ (ks : List Int), Reps K H [] (ks.map fun _ => .bl true) (ks.map fun _ => D.bl true)
  | [] => .nil
  | k :: ks => .cons (.bl true) (reps_of_marks ks)
theorem zip_marks : ∀ (ks : List Int), ((ks.map Sum.inl : List Key).zip (ks.map fun _ => V.bl true)) = mkv ks
  | [] => rfl
  | k :: ks => by rw [List.map_cons, List.map_cons, List.zip_cons_cons, zip_marks ks]; rfl
theorem Rep.mk_inv {d : Mrk} (r : Rep K H fp v (enc d)) : ∃ a, v = .ref a ∧ H a = some (.dK (mkv d.ks)) ∧ fp = [a] := by
  obtain ⟨a, vs, fp', e, h, _, rs, e2⟩ := Rep.dic_inv (ks := d.ks.map Sum.inl) (ds := d.ks.map fun _ => .bl true) r
  obtain ⟨e3, rfl⟩ := reps_marks rs
  exact ⟨a, e, by rw [h, e3], e2⟩
theorem Rep.mk_of {d : Mrk} {a : Addr} (h : H a = some (.dK (mkv d.ks))) : Rep K H [a] (.ref a) (enc d) :=
  .dic (ks := d.ks.map Sum.inl) (vs := d.ks.map fun _ => .bl true) (by rw [zip_marks]; exact h) (by rw [List.length_map, List.length_map]) (reps_of_marks d.ks)
theorem valV_mkv (k : Int) : ∀ ks : List Int, (valV (mkv ks) (.inl k)).isSome = ks.contains k
  | [] => rfl
  | j :: ks => by
    by_cases e : k = j
    · subst e
      rw [show mkv (k :: ks) = (.inl k, .bl true) :: mkv ks from rfl, valV_pos rfl]
      simp
    · rw [show mkv (j :: ks) = (.inl j, .bl true) :: mkv ks from rfl, valV_neg (fun z => e (Sum.inl.inj z).symm), valV_mkv k ks]
      simp [e]
theorem putK_mkv (d : Mrk) (k : Int) : putK (mkv d.ks) (.inl k) (.bl true) = mkv (d.put k).ks := by
  have h := valV_any (.inl k : Key) (mkv d.ks)
  rw [valV_mkv] at h
  unfold putK Mrk.put
  rw [h]
  cases hc : d.ks.contains k with
  | false => rw [if_neg (by simp), if_neg (by simp)]; simp [mkv]
  | true =>
    rw [if_pos rfl, if_pos rfl]
    unfold mkv
    rw [List.map_map]
    refine List.map_congr_left fun j _ => ?_
    show (if (Sum.inl j : Key) = .inl k then ((Sum.inl j : Key), V.bl true) else (.inl j, .bl true)) = _
    split <;> rfl
end
section
variable {X : Cx} {G : Gam} {N : List Str} {sc : Scope} {e a b c : Expr} {es : List Expr} {p pa pb pr q : Prop} {pos ppos : Pos}
variable {W : WX} {S B R : Type} [Ret R] {g : S → Gam} {gb : B → Gam} {rest : List Stmt}
/-- an owned slot's own object is written -/
theorem own_updO {i : Nat} {l : Addr} {o o' : HO} {fpi : List Addr} {d' : D} {fp' : List Addr} {σ : St} {H H1 : Hp} {F : Nat → List Addr} {d : D} (Rl : Rel X.K G σ H F) (s : Same H H1) (h : G[i]? = some (.val true d)) (hσ : σ[i]? = some (some (.ref l))) (hF : F i = l :: fpi) (hl : H1 l = some o) (mu : Mut o)
    (rs : Rep X.K (upd H1 l o') (l :: fp') (.ref l) d') (nd : (l :: fp').Nodup) (hn : ∀ a ∈ fp', a ∈ fpi ∨ H a = none) :
    Rel X.K (G.set i (.val true d')) σ (upd H1 l o') (updF F i (l :: fp')) ∧ Frm (InO G F) H (InO (G.set i (.val true d')) (updF F i (l :: fp'))) (upd H1 l o') := by
  have hi : i < G.length := (List.getElem?_eq_some_iff.mp h).1
  have lO : InO G F l := ⟨i, _, h, by rw [hF]; exact List.mem_cons_self⟩
  have nl : ∀ (j : Nat) m d, j ≠ i → G[j]? = some (.val m d) → ∀ a ∈ F j, a ∉ (l :: fp') := fun j m d hj e a ha z => by
    have q : ∀ b ∈ F i, b ∉ F j := Rl.dj i j _ m d (Ne.symm hj) h e
    rcases List.mem_cons.mp z with z | z
    · subst z; exact q a (by rw [hF]; exact List.mem_cons_self) ha
    · rcases hn a z with z | z
      · exact q a (by rw [hF]; exact List.mem_cons_of_mem _ z) ha
      · obtain ⟨_, _, r⟩ := Rl.rep j m d e
        exact r.there ha z
  refine ⟨⟨by rw [List.length_set]; exact Rl.len, fun j m d e => ?_, fun j d e => ?_, fun j j' d m' d' n e e' => ?_, fun j a e => by
    by_cases hj : j = i
    · subst hj
      have q := set_eq e
      cases q
    · exact Rl.ex j a (set_ne hj e)⟩, fun b o hb hO => ⟨?_, ?_⟩⟩
  · by_cases hj : j = i
    · subst hj
      have q := set_eq e
      injection q with q1 q2
      subst q1 q2
      rw [updF_same]
      exact ⟨_, hσ, rs⟩
    · rw [updF_ne hj]
      obtain ⟨v, hv, r⟩ := Rl.rep j m d (set_ne hj e)
      exact ⟨v, hv, (r.same s).updO hl mu fun z => nl j m d hj (set_ne hj e) l z List.mem_cons_self⟩
  · by_cases hj : j = i
    · subst hj; rw [updF_same]; exact nd
    · rw [updF_ne hj]; exact Rl.nd j d (set_ne hj e)
  · by_cases hj : j = i
    · subst hj
      rw [updF_same, updF_ne (Ne.symm n)]
      exact fun a ha z => nl j' m' d' (Ne.symm n) (set_ne (Ne.symm n) e') a z ha
    · by_cases hj' : j' = i
      · subst hj'
        rw [updF_same, updF_ne n]
        exact nl j _ d n (set_ne n e)
      · rw [updF_ne hj, updF_ne hj']
        exact Rl.dj j j' d m' d' n (set_ne hj e) (set_ne hj' e')
  · have hbl : b ≠ l := fun z => hO (z ▸ lO)
    rw [upd_ne hbl]; exact s b o hb
  · rintro ⟨j, d, e, ha⟩
    by_cases hj : j = i
    · subst hj
      rw [updF_same] at ha
      rcases List.mem_cons.mp ha with z | z
      · exact hO (z ▸ lO)
      · rcases hn b z with z | z
        · exact hO ⟨j, _, h, by rw [hF]; exact List.mem_cons_of_mem _ z⟩
        · rw [hb] at z; cases z
    · rw [updF_ne hj] at ha
      exact hO ⟨j, d, set_ne hj e, ha⟩
/-- {} -/
theorem ex_mk0 : EX X G (.Dict [] [] pos) True (Mrk.mk []) .frs :=
  ⟨_, pe_dnewK, fun σ H F Q R _ k p hn => k _ _ [p] (Same.upd hn) (Rep.mk_of (d := Mrk.mk []) upd_same) ⟨by simp, fun a ha => by rw [List.mem_singleton.mp ha]; exact hn⟩⟩
/-- {a: True} -/
theorem ex_mk1 {x : Int} {kx : Kd} {jt : Nat} {bp : Pos} (ha : EX X G a pa x kx) : EX X G (.Dict [some a] [.Constant (.bool true) jt bp] pos) pa (Mrk.mk [x]) .frs := by
  obtain ⟨ta, a1, a2⟩ := ha
  refine ⟨_, pe_disp (pps_cons a1 pe_bl pps_nil) rfl rfl (by simp) (show 1 ≤ 15 by decide), fun σ H F Q R hp k p hn => ?_⟩
  have s0 : Same H (upd H p (.dK [])) := Same.upd hn
  refine a2 σ _ F _ (R.same s0) hp fun v H1 fp s1 r1 _ => ?_
  obtain ⟨rfl, _⟩ := r1.int_inv
  have h1 := s1 p _ upd_same
  refine ⟨h1, [(.inl x, .bl true)], rfl, (show 1 ≤ 15 by decide), ?_⟩
  refine k _ _ [p] (fun b o hb => ?_) (Rep.mk_of (d := Mrk.mk [x]) upd_same) ⟨by simp, fun a ha => by rw [List.mem_singleton.mp ha]; exact hn⟩
  have hbp : b ≠ p := ne_of_none hb hn
  rw [upd_ne hbp]
  exact s1 _ _ (s0 _ _ hb)
/-- y[k] = True -/
theorem sx_mkput {d : Mrk} {k : Int} {y : Str} {npos spos : Pos} {kx ky : Kd} {pR : Mrk → Prop} {oR : Mrk → Out S B R} {p1 p2 : Prop} (C : Cxf X N sc) (hu : X.A.units + 64 < cLine) (i : Nat) (V : Vr N sc i y) (he : EX X G e pa true kx) (hi : EX X G a pb k ky)
    (hR : ∀ z : Mrk, SX X W (G.set i (.val true (enc z))) rest (pR z) g gb (oR z)) (c1 : Cmb pa pb p1) (c2 : Cmb p1 (LenOk (d.ks.length + 1)) p2) (c3 : Cmb p2 (lt (d.put k) pR) p) (h : G[i]? = some (.val true (enc d)) := by rfl)
    (hs : swapsWith e (some (.Subscript (.Name y npos) a spos)) pos.line X.env = pure false := by rfl) :
    SX X W G (.Assign [.Subscript (.Name y npos) a spos] e pos :: rest) p g gb (lt (d.put k) oR) := by
  obtain ⟨te, h1, h2⟩ := he
  obtain ⟨ti, i1, i2⟩ := hi
  obtain ⟨ts, r1, r2⟩ := hR (d.put k)
  refine ⟨_, pss_cons (ps_dput (Nat.lt_of_le_of_lt (Nat.add_le_add_left (by decide) _) hu) (pe_slot C.toCx0 V) i1 h1 hs) r1, fun σ H F D Rl hp kk => ?_⟩
  obtain ⟨hp2, hpR⟩ := c3.out hp
  obtain ⟨hp1, hlen⟩ := c2.out hp2
  obtain ⟨hpa, hpb⟩ := c1.out hp1
  refine h2 σ H F _ Rl hpa fun w H1 fp s1 r1' kd => ?_
  obtain ⟨rfl, _⟩ := r1'.bl_inv
  have Rl1 := Rl.same s1
  obtain ⟨v, ev, rv⟩ := Rl1.rep i _ _ h
  refine ⟨v, ev, i2 σ H1 F _ Rl1 hpb fun u H2 fp2 s2 r2' kd2 => ?_⟩
  obtain ⟨rfl, _⟩ := r2'.int_inv
  obtain ⟨l, rfl, hl, eF⟩ := (rv.same s2).mk_inv
  have hlm : (mkv d.ks).length < sizeLine := by
    unfold mkv
    rw [List.length_map]
    unfold LenOk at hlen
    omega
  refine ⟨l, _, rfl, DPut.k (k := .inl k) hl hlm, ?_⟩
  rw [putK_mkv]
  obtain ⟨q1, q2⟩ := own_updO (fp' := []) (d' := enc (d.put k)) Rl (s1.trans s2) h ev eF hl (.dK _) (Rep.mk_of upd_same) (by simp) (fun _ h => nomatch h)
  exact r2 _ _ _ D q1 hpR (kk.of q2)
theorem sx_mkputV {d : Mrk} {k : Int} {y : Str} {npos spos : Pos} {kx ky : Kd} {pR : Mrk → Prop} {rR : Mrk → R} {p1 p2 : Prop} (C : Cxf X N sc) (hu : X.A.units + 64 < cLine) (i : Nat) (V : Vr N sc i y) (he : EX X G e pa true kx) (hi : EX X G a pb k ky)
    (hR : ∀ z : Mrk, SX X W (G.set i (.val true (enc z))) rest (pR z) g gb (.ret (rR z) : Out S B R)) (c1 : Cmb pa pb p1) (c2 : Cmb p1 (LenOk (d.ks.length + 1)) p2) (c3 : Cmb p2 (lt (d.put k) pR) p) (h : G[i]? = some (.val true (enc d)) := by rfl)
    (hs : swapsWith e (some (.Subscript (.Name y npos) a spos)) pos.line X.env = pure false := by rfl) :
    SX X W G (.Assign [.Subscript (.Name y npos) a spos] e pos :: rest) p g gb (.ret (lt (d.put k) rR) : Out S B R) :=
  sx_mkput (oR := fun x => (.ret (rR x) : Out S B R)) (C := C) (hu := hu) (i := i) (V := V) (he := he) (hi := hi) (hR := hR) (c1 := c1) (c2 := c2) (c3 := c3) (h := h) (hs := hs)
theorem sx_mkputF {d : Mrk} {k : Int} {y : Str} {npos spos : Pos} {kx ky : Kd} {pR : Mrk → Prop} {rR : Mrk → S} {p1 p2 : Prop} (C : Cxf X N sc) (hu : X.A.units + 64 < cLine) (i : Nat) (V : Vr N sc i y) (he : EX X G e pa true kx) (hi : EX X G a pb k ky)
    (hR : ∀ z : Mrk, SX X W (G.set i (.val true (enc z))) rest (pR z) g gb (.fall (rR z) : Out S B R)) (c1 : Cmb pa pb p1) (c2 : Cmb p1 (LenOk (d.ks.length + 1)) p2) (c3 : Cmb p2 (lt (d.put k) pR) p) (h : G[i]? = some (.val true (enc d)) := by rfl)
    (hs : swapsWith e (some (.Subscript (.Name y npos) a spos)) pos.line X.env = pure false := by rfl) :
    SX X W G (.Assign [.Subscript (.Name y npos) a spos] e pos :: rest) p g gb (.fall (lt (d.put k) rR) : Out S B R) :=
  sx_mkput (oR := fun x => (.fall (rR x) : Out S B R)) (C := C) (hu := hu) (i := i) (V := V) (he := he) (hi := hi) (hR := hR) (c1 := c1) (c2 := c2) (c3 := c3) (h := h) (hs := hs)
/-- k in y -/
theorem cm_inMk {k : Int} {d : Mrk} {kx ky : Kd} (hu : X.A.units + 64 < cLine) (ha : EX X G a pa k kx) (hb : EX X G b pb d ky) (c1 : Cmb pa pb p) (hm : behindInMarks .In b = false := by rfl) : CMP X G (.Compare a [.In] [b] pos) p (d.ks.contains k) := by
  obtain ⟨ta, a1, a2⟩ := ha
  obtain ⟨tb, b1, b2⟩ := hb
  refine ⟨_, pe_cmp (pc_din (Nat.lt_of_le_of_lt (Nat.add_le_add_left (by decide) _) hu) a1 b1) hm, ?_, fun σ H F Q R hp q => ?_⟩
  · have := pt_cmp (pos := pos) (pc_din (Nat.lt_of_le_of_lt (Nat.add_le_add_left (by decide) _) hu) a1 b1) hm
    refine this
  obtain ⟨hpa, hpb⟩ := c1.out hp
  refine a2 σ H F _ R hpa fun v H1 fp s1 r1 _ => ?_
  refine b2 σ H1 F _ (R.same s1) hpb fun w H2 fp2 s2 r2 _ => ?_
  obtain ⟨rfl, _⟩ := r1.int_inv
  obtain ⟨l, rfl, hl, _⟩ := r2.mk_inv
  refine ⟨l, _, rfl, DGet.k (k := .inl k) hl, ?_⟩
  rw [valV_mkv]
  exact q H2 (s1.trans s2)
end
end BW

set_option Elab.async false
set_option linter.all false
set_option maxRecDepth 100000
set_option maxHeartbeats 4000000
/-! is, is not of truth values. -/
namespace BW
open PySem L2
section
variable {X : Cx} {G : Gam} {a b : Expr} {p pa pb : Prop} {pos : Pos}
theorem cm_isB {x y : Bool} {kx ky : Kd} (ha : EX X G a pa x kx) (hb : EX X G b pb y ky) (c1 : Cmb pa pb p) : CMP X G (.Compare a [.Is] [b] pos) p (decide (x = y)) :=
  cm2 (pr := True) op_isBl ha hb (fun _ H fv fw v w Q rv rw' k => ⟨x, y, rv.bl_inv.1, rw'.bl_inv.1, k⟩) c1 (.l p)
theorem cm_nisB {x y : Bool} {kx ky : Kd} (ha : EX X G a pa x kx) (hb : EX X G b pb y ky) (c1 : Cmb pa pb p) : CMP X G (.Compare a [.IsNot] [b] pos) p (!decide (x = y)) :=
  cm2 (pr := True) op_notBl ha hb (fun _ H fv fw v w Q rv rw' k => ⟨x, y, rv.bl_inv.1, rw'.bl_inv.1, k⟩) c1 (.l p)
end
end BW

set_option Elab.async false
set_option linter.all false
set_option maxRecDepth 100000
set_option maxHeartbeats 4000000
/-! [o.m(x) for x in xs]: a method that writes, item by item. -/
namespace BW
open PySem L2
section
variable {K : PySem.W.Frag} {G : Gam} {σ : St} {H H' H1 : Hp} {F : Nat → List Addr}
theorem Rel.updN {D : Addr} {o o' : HO} (R : Rel K G σ H F) (h : H D = some o) (m : Mut o) (hn : ∀ (n : Nat) mm d, G[n]? = some (.val mm d) → D ∉ F n) : Rel K G σ (upd H D o') F :=
  ⟨R.len, fun i mm d e => by obtain ⟨v, h1, r⟩ := R.rep i mm d e; exact ⟨v, h1, r.updO h m (hn i mm d e)⟩, R.nd, R.dj, R.ex⟩
/-- an owned value put into a slot, apart from all others -/
theorem Rel.putD {i : Nat} {d : D} {v : V} {fp : List Addr} (R : Rel K G σ H F) (r : Rep K H fp v d) (hi : i < G.length) (nd : fp.Nodup) (dj : ∀ (n : Nat) mm d', G[n]? = some (.val mm d') → ∀ a ∈ fp, a ∉ F n) :
    Rel K (G.set i (.val true d)) (σ.set i (some v)) H (updF F i fp) := by
  refine ⟨by simp [R.len], fun j m' d' e => ?_, fun j d' e => ?_, fun j j' d' m' d2 n e e' => ?_, fun j a e => ?_⟩
  · by_cases hj : j = i
    · subst hj
      have q := set_eq e
      injection q with q1 q2
      subst q1 q2
      rw [updF_same]
      exact ⟨v, by rw [List.getElem?_set_self (by rw [R.len]; exact hi)], r⟩
    · rw [updF_ne hj, List.getElem?_set_ne (Ne.symm hj)]
      exact R.rep j m' d' (set_ne hj e)
  · by_cases hj : j = i
    · subst hj; rw [updF_same]; exact nd
    · rw [updF_ne hj]; exact R.nd j d' (set_ne hj e)
  · by_cases hj : j = i
    · subst hj
      rw [updF_same, updF_ne (Ne.symm n)]
      exact fun a ha => dj j' m' d2 (set_ne (Ne.symm n) e') a ha
    · by_cases hj' : j' = i
      · subst hj'
        rw [updF_same, updF_ne hj]
        exact fun a ha z => dj j true d' (set_ne hj e) a z ha
      · rw [updF_ne hj, updF_ne hj']
        exact R.dj j j' d' m' d2 n (set_ne hj e) (set_ne hj' e')
  · by_cases hj : j = i
    · subst hj
      have q := set_eq e
      cases q
    · rw [List.getElem?_set_ne (Ne.symm hj)]
      exact R.ex j a (set_ne hj e)
variable {cls : Str} {ks : List Str} {ds : List D} {w : Option Addr}
theorem meth_post2 {A U : Type} [Enc U] {din : A → D} {encs : A → List D} {pre : A → Prop} {dout : A → D} {val : A → U} {i : Nat} {x : A} {a0 : Addr} {vs : List V} {fp : List Addr} {Q : VK} {E : XK}
    (Rl : Rel K G σ H F) (h : G[i]? = some (.val true (.obj w cls ks ds))) (hs : σ[i]? = some (some (.ref a0))) (hd : din x = .obj none cls ks ds) (s1 : Same H H1) (rs : Reps K H1 fp vs (encs x)) (kd : KdOk .shr (InS G F) H fp) (hp : pre x)
    (hq : ∀ v H' fs' fr, Rel K (G.set i (.val true (pinD w (dout x)))) σ H' (updF F i fs') → Frm (InO G F) H (InO (G.set i (.val true (pinD w (dout x)))) (updF F i fs')) H' → Rep K H' fr v (enc (val x)) → fr.Nodup → Q v H') :
    spM K din encs pre dout val (.ref a0 :: vs) H1 Q E := by
  obtain ⟨v0, e0, r0⟩ := Rl.rep i _ _ h
  rw [hs] at e0
  obtain rfl := Option.some.inj (Option.some.inj e0)
  have nd := Rl.nd i _ h
  have hw : ∀ b, w = some b → b = a0 := by
    obtain ⟨a', dx, vs', fp', e1, hw, _⟩ := r0.obj_inv
    obtain rfl : a0 = a' := by injection e1
    exact hw
  refine ⟨x, a0, vs, F i, fp, rfl, by rw [hd]; exact (r0.repin fun b e => by cases e).same s1, nd, rs, fun b hb z => Rl.shrN kd b z ⟨i, _, h, hb⟩, hp, fun v H' fs' fr r1 n1 r2 n2 dj k1 k2 f2 => ?_⟩
  have r3 : Rep K H' fs' (.ref a0) (pinD w (dout x)) := by
    generalize dout x = d at r1 ⊢
    cases d with
    | obj w' c' ks' ds' => exact r1.repin hw
    | _ => exact r1
  have hfr : Frm (· ∈ F i) H (· ∈ fs') H' := fun b o e n => f2 b o (s1 b o e) n
  have hnew : ∀ b ∈ fs', b ∈ F i ∨ H b = none := fun b hb => (k1 b hb).imp id s1.free
  obtain ⟨q1, q2⟩ := Rl.mut h hs r3 n1 hfr hnew
  exact hq v H' fs' fr q1 q2 r2 n2
end
section
variable {X : Cx} {G : Gam} {N : List Str} {sc : Scope} {e a b c : Expr} {es : List Expr} {p pa pb pr q : Prop} {pos ppos apos cpos npos : Pos}
variable {cls : Str} {ks : List Str} {ds : List D} {w : Option Addr}
/-- an expression that writes the object of a slot; its value holds no list -/
def MX (X : Cx) (G : Gam) (e : Expr) (p : Prop) (i : Nat) (d' : D) {U : Type} [Enc U] (u : U) : Prop :=
  ∃ te, PE X e te ∧ ∀ σ H F (Q : VK), Rel X.K G σ H F → p → (∀ v H' fs', Rel X.K (G.set i (.val true d')) σ H' (updF F i fs') → Frm (InO G F) H (InO (G.set i (.val true d')) (updF F i fs')) H' → Rep X.K H' [] v (enc u) → Q v H') → te σ H Q
def teM (K : PySem.W.Frag) {I U : Type} [Enc U] (Gx : I → Gam) (px : I → Prop) (i : Nat) (dx : I → D) (ux : I → U) : TE := fun σ H Q => ∃ (x : I) (F : Nat → List Addr), Rel K (Gx x) σ H F ∧ px x ∧ ∀ v H' fs', Rel K ((Gx x).set i (.val true (dx x))) σ H' (updF F i fs') → Frm (InO (Gx x) F) H (InO ((Gx x).set i (.val true (dx x))) (updF F i fs')) H' → Rep K H' [] v (enc (ux x)) → Q v H'
theorem MX.canon {I U : Type} [Enc U] {Gx : I → Gam} {px : I → Prop} {i : Nat} {dx : I → D} {ux : I → U} (h : ∀ x, MX X (Gx x) e (px x) i (dx x) (ux x)) : PE X e (teM X.K Gx px i dx ux) := by
  refine ⟨fun pins s σ H Q I hw => ?_⟩
  obtain ⟨x, F, R, hp, q⟩ := hw
  obtain ⟨te, h1, h2⟩ := h x
  exact h1.run pins s σ H Q I (h2 σ H F Q R hp q)
/-- o.m(..) -/
theorem mx_meth {A U : Type} [Enc U] [Flat U] {din : A → D} {encs : A → List D} {pre : A → Prop} {dout : A → D} {val : A → U} {k : Nat} {ps : List Str} {y m : Str} (C : Cx0 X N sc) (i : Nat) (V : Vr N sc i y)
    (F : CalM X.prog X.w X.K X.mg X.base cls m k ps (spM X.K din encs pre dout val)) (hr : Room k X.A) (x : A) (ha : AX X G (e :: es) pa (encs x) .shr)
    (c1 : Cmb pa (pre x) p) (h : G[i]? = some (.val true (.obj w cls ks ds)) := by rfl) (hd : din x = .obj none cls ks ds := by rfl) (hm : idx ks m = none := by rfl)
    (hst : starEach (e :: es) X.env = (false, eval e X.env) :: starEach es X.env := by rfl) (hpl : (backTo cpos (starEach es X.env)).any (·.1) = false := by rfl)
    {pl : Sem Bool} (ht : eval (.Call (.Attribute (.Name y ppos) m apos) (e :: es) [] cpos) X.env = (do
      let ov ← eval (.Name y ppos) X.env
      standAt apos.atName
      let (f, first) ← holding [ov] (getMethod ov m pl)
      callWith cpos f first (backTo cpos (starEach (e :: es) X.env)) (backToKw cpos (keywordEach [] X.env))) := by rfl) :
    MX X G (.Call (.Attribute (.Name y ppos) m apos) (e :: es) [] cpos) p i (pinD w (dout x)) (val x) := by
  obtain ⟨ta, a1, a2⟩ := ha
  obtain ⟨f, fd, hM, hb, F'⟩ := F.ex
  refine ⟨_, pe_meth (E := fun _ _ _ => False) (pe_slot C V) F.kc hM F' hr hb .nil passL a1 hst hpl ht, fun σ H Fs Q Rl hp k => ?_⟩
  obtain ⟨hpa, hpx⟩ := c1.out hp
  obtain ⟨v0, e0, r0⟩ := Rl.rep i _ _ h
  obtain ⟨a0, dx, vs0, fp0, rfl, hw, hH, hl', rs, eF⟩ := r0.obj_inv
  refine ⟨_, e0, a0, dx, _, rfl, hH, lookup_zipN hm, a2 σ H Fs _ Rl hpa fun vs H1 fp s1 rv kd => ?_⟩
  rw [List.append_nil]
  refine meth_post2 Rl h e0 hd s1 rv kd hpx fun v H' fs' fr q1 q2 q3 _ => ?_
  have z := Flat.flat (val x) q3
  subst z
  exact k v H' fs' q1 q2 q3
end
/-- one behind the other: the last state, what each gave -/
def accS {S0 t U : Type} (f : S0 → t → S0 × U) (q : S0 × List U) (x : t) : S0 × List U := ((f q.1 x).1, q.2 ++ [(f q.1 x).2])
def mapAcc {S0 t U : Type} (f : S0 → t → S0 × U) (s0 : S0) (xs : List t) : S0 × List U := xs.foldl (accS f) (s0, [])
theorem foldP_at {L t : Type} {p : L → t → Prop} {f : L → t → L} : ∀ {xs : List t} {s : L} {i : Nat} {x : t}, foldP p f s xs → xs[i]? = some x → p ((xs.take i).foldl f s) x
  | [], _, _, _, _, h => by simp at h
  | y :: ys, s, 0, x, hp, h => by
    rw [List.getElem?_cons_zero] at h
    rw [← Option.some.inj h]
    exact hp.1
  | y :: ys, s, i + 1, x, hp, h => by
    rw [List.getElem?_cons_succ] at h
    exact foldP_at (xs := ys) (s := f s y) (i := i) (x := x) hp.2 h
section
variable {X : Cx} {G : Gam} {N : List Str} {sc : Scope} {e a b c : Expr} {es : List Expr} {p pa pb pr q : Prop} {pos ppos apos cpos npos : Pos}
variable {W : WX} {S B R : Type} [Ret R] {g : S → Gam} {gb : B → Gam} {rest : List Stmt}
theorem sx_setLcM {S0 t U : Type} [Enc t] [Flat t] [Enc U] [Flat U] {xs : List t} {Ds : S0 → D} {f : S0 → t → S0 × U} {pe : S0 → t → Prop} {pI p1 p2 : Prop} {y : Str} {elt tg iter : Expr} {scope : Scope} {own : List (Str × Nat)} {lpos py : Pos} {pR : S0 × List U → Prop} {oR : S0 × List U → Out S B R} {jt : Nat} (s0 : S0)
    (C : Cxf X N sc) (i j : Nat) (Vj : N[j]? = some y) (hy : sc.names.lookup y = some .local) (hG : G.length = N.length) (hI : IX X G tg iter pI xs) (ok : BlkOk N sc scope own)
    (hjt : jt ∈ own.map (·.2)) (hno : ∀ k ∈ own.map (·.2), G[k]? = some .no) (hij : i ∉ own.map (·.2))
    (hT : ∀ (s : Shared) (H : Hp) (D : Addr) (cl : List (Str × Addr)) (fp : List Addr), TGT (X.blk s H scope (compEnvC scope cl D X.env) fp) N.length tg [jt] (fun G (x : t) => G.set jt (.val false (enc x))))
    (he : ∀ (s : Shared) (H : Hp) (D : Addr) (cl : List (Str × Addr)) (fp : List Addr) (st : S0) (x : t), MX (X.blk s H scope (compEnvC scope cl D X.env) fp) ((G.set i (.val true (Ds st))).set jt (.val false (enc x))) elt (pe st x) i (Ds (f st x).1) (f st x).2)
    (hR : ∀ q : S0 × List U, SX X W ((G.set i (.val true (Ds q.1))).set j (.val true (enc q.2))) rest (pR q) g gb (oR q))
    (c1 : Cmb pI (foldP (fun (q : S0 × List U) x => pe q.1 x) (accS f) (s0, []) xs) p1) (c2 : Cmb p1 (LenOk xs.length) p2) (c3 : Cmb p2 (lt (mapAcc f s0 xs) pR) p)
    (hi : G[i]? = some (.val true (Ds s0)) := by rfl) (hl : Nat.blt j G.length = true := by rfl) (hji : j ≠ i) (hkd : sc.kind = .function) (hll : (py.line == lpos.line) = true) (ha : (scope.names.any fun (n, k) => n == y && (k == .local || k == .cell)) = false)
    (hs : ∀ x, foldedSetIterable iter X.env x = pure x := by intro _; rfl) :
    SX X W G (.Assign [.Name y py] (.ListComp elt [⟨tg, iter, [], 0⟩] scope lpos) pos :: rest) p g gb (lt (mapAcc f s0 xs) oR) := by
  obtain ⟨wi, hI1, hI2⟩ := hI
  obtain ⟨ts, r1, r2⟩ := hR (mapAcc f s0 xs)
  refine ⟨_, pss_cons (ps_setLc (wi := wi) (g := gC X.K N.length [jt] (fun G (x : t) => G.set jt (.val false (enc x)))) (tt := tYes) (te := teM X.K (fun z : S0 × t => (G.set i (.val true (Ds z.1))).set jt (.val false (enc z.2))) (fun z => pe z.1 z.2) i (fun z => Ds (f z.1 z.2).1) (fun z => (f z.1 z.2).2)) C.calm (by rw [C.hN]; exact C.nd) (by rw [C.hN]; exact Vj) (by rw [C.hs]; exact hy) (sw_true (by rw [C.hs]; exact hkd) (by rw [C.hs]; exact hy) hll ha) hI1 (by rw [C.hN, C.hs]; exact ok) (fun s H D cl fp => (hT s H D cl fp).canon) (fun s H D cl fp => pts_nil) (fun s H D cl fp => MX.canon fun z => he s H D cl fp z.1 z.2) hs) r1, fun σ H F D Rl hp k => ?_⟩
  obtain ⟨hp2, hpR⟩ := c3.out hp
  obtain ⟨hp1, hlen⟩ := c2.out hp2
  obtain ⟨hpI, hF⟩ := c1.out hp1
  have hwG : ∀ d, wipeG (G.set i (.val true d)) (own.map (·.2)) = G.set i (.val true d) := fun d => by
    have : ∀ vs : List Nat, (∀ k ∈ vs, G[k]? = some .no ∧ k ≠ i) → wipeG (G.set i (.val true d)) vs = G.set i (.val true d) := by
      intro vs
      induction vs with
      | nil => exact fun _ => rfl
      | cons v vs ih =>
        intro h
        unfold wipeG
        rw [ih fun k hk => h k (List.mem_cons_of_mem _ hk)]
        obtain ⟨h1, h2⟩ := h v List.mem_cons_self
        refine List.ext_getElem? fun n => ?_
        by_cases hn : n = v
        · subst hn
          have hlt : n < (G.set i (.val true d)).length := by rw [List.length_set]; exact (List.getElem?_eq_some_iff.mp h1).1
          rw [List.getElem?_set_self hlt, List.getElem?_set_ne (Ne.symm h2), h1]
        · rw [List.getElem?_set_ne (Ne.symm hn)]
    exact this _ fun k hk => ⟨hno k hk, fun e => hij (e ▸ hk)⟩
  have hijt : jt ≠ i := fun e => hij (e ▸ hjt)
  have hil : i < G.length := (List.getElem?_eq_some_iff.mp hi).1
  refine hI2 σ H F _ Rl hpI fun J H1 nodes Gd s1 n1 n2 ps g1 w => ?_
  intro A hA
  have hnA : H A = none := s1.free hA
  let Q : Nat → S0 × List U := fun n => (xs.take n).foldl (accS f) (s0, [])
  have nO : ∀ a ∈ nodes, ¬ InO G F a := Rl.shrN n1
  refine lc_it w (fun n Hn => ∃ acc Fn, Hn A = some (.lst acc) ∧ Reps X.K Hn [] acc ((Q n).2.map enc) ∧ acc.length ≤ n ∧ Rel X.K (G.set i (.val true (Ds (Q n).1))) σ Hn Fn ∧ Frm (InO G F) H (InO (G.set i (.val true (Ds (Q n).1))) Fn) Hn ∧ (∀ (m : Nat) mm d, (G.set i (.val true (Ds (Q n).1)))[m]? = some (.val mm d) → A ∉ Fn m) ∧ (∀ a ∈ nodes, ¬ InO (G.set i (.val true (Ds (Q n).1))) Fn a) ∧ Gd Hn) ?_ ?_ ?_ ?_
  · have hGi : G.set i (.val true (Ds s0)) = G := by
      refine List.ext_getElem? fun n => ?_
      by_cases hn : n = i
      · subst hn
        rw [List.getElem?_set_self hil, hi]
      · rw [List.getElem?_set_ne (Ne.symm hn)]
    have s2 : Same H (upd H1 A (.lst [])) := s1.trans (Same.upd hA)
    have hGi' : G.set i (.val true (Ds (Q 0).1)) = G := hGi
    refine ⟨[], F, upd_same, .nil, Nat.le_refl _, by rw [hGi']; exact Rl.same s2, by rw [hGi']; exact Rl.frm s2, fun m mm d e z => ?_, by rw [hGi']; exact nO, ?_⟩
    · rw [hGi'] at e
      obtain ⟨_, _, r⟩ := Rl.rep m mm d e
      exact r.there z hnA
    · exact (ps _ _ (fun _ => False) _ (Same.frm (Same.upd hA)) (fun _ z => z.elim) (fun _ _ z => z) g1).1
  · exact fun n Hn _ ⟨_, _, _, _, _, _, _, _, _, g⟩ => g
  · rintro n x Hi Hi' hn ⟨acc, Fn, hAc, rA, lA, Rn, fn, nA, nn, gA⟩ ⟨sy, fpx, y', ey, ry, ny⟩
    have gA' : Gd Hi' := (ps _ _ (fun _ => False) _ (Same.frm sy) (fun _ z => z.elim) (fun _ _ z => z) gA).1
    have hpe := foldP_at hF ey
    have zf := Flat.flat y' ry
    subst zf
    have Rn' := (Rn.same sy).wipe (own.map (·.2))
    rw [hwG] at Rn'
    have hAc' : Hi' A = some (.lst acc) := sy _ _ hAc
    refine ⟨G.set i (.val true (Ds (Q n).1)), y', Fn, [], by rw [List.length_set, hG], Rn', ry, (fun _ h => nomatch h), fun σ2 F2 l2 R2 f2 m2 i2 o2 j2 e2 => ⟨?_, ?_⟩⟩
    · rw [wipe_ext (b := L2.wipe σ (own.map (·.2))) e2 (fun k hk => j2 k fun z => hk (by rw [List.mem_singleton.mp z]; exact hjt)), wipe_wipe]
    · unfold tYes
      dsimp only
      rw [if_pos rfl]
      refine ⟨((Q n).1, y'), F2, R2, hpe, fun v H4 fs' R4 f4 r4 => ?_⟩
      have eQ : Q (n + 1) = accS f (Q n) y' := by
        show (xs.take (n + 1)).foldl _ _ = _
        rw [List.take_add_one, ey, List.foldl_append]
        rfl
      have nA2 : ¬ InO ((G.set i (.val true (Ds (Q n).1))).set jt (.val false (enc y'))) F2 A := fun z => by
        obtain ⟨m, d, e, hm⟩ := o2 A z
        exact nA m _ d e hm
      have sA2 : ¬ InS ((G.set i (.val true (Ds (Q n).1))).set jt (.val false (enc y'))) F2 A := fun z => by
        rcases i2 A z with ⟨m, d, e, hm⟩ | z
        · exact nA m _ d e hm
        · cases z
      obtain ⟨hA4, nA4⟩ := f4 A _ hAc' nA2
      have hjl : jt < G.length := (List.getElem?_eq_some_iff.mp (hno jt hjt)).1
      -- the slots without the comprehension's own
      have back : ∀ (m : Nat) mm d, (G.set i (.val true (Ds (Q (n + 1)).1)))[m]? = some (.val mm d) → m ∉ own.map (·.2) ∧ (((G.set i (.val true (Ds (Q n).1))).set jt (.val false (enc y'))).set i (.val true (Ds (f (Q n).1 y').1)))[m]? = some (.val mm d) := fun m mm d e => by
        have hm : m ∉ own.map (·.2) := fun z => by
          have hmi : m ≠ i := fun e => hij (e ▸ z)
          rw [List.getElem?_set_ne (Ne.symm hmi), hno m z] at e
          cases e
        refine ⟨hm, ?_⟩
        have hmj : m ≠ jt := fun z => hm (z ▸ hjt)
        rw [eQ] at e
        by_cases hmi : m = i
        · subst hmi
          rw [List.getElem?_set_self (by rw [List.length_set, List.length_set]; exact hil)]
          rw [List.getElem?_set_self hil] at e
          exact e
        · rw [List.getElem?_set_ne (Ne.symm hmi), List.getElem?_set_ne (Ne.symm hmj), List.getElem?_set_ne (Ne.symm hmi)]
          rw [List.getElem?_set_ne (Ne.symm hmi)] at e
          exact e
      have hσ : ∀ m, m ∉ own.map (·.2) → σ2[m]? = σ[m]? := fun m hm => by
        rw [j2 m (fun z => hm (by rw [List.mem_singleton.mp z]; exact hjt)), wipe_at hm]
      have R5 : Rel X.K (G.set i (.val true (Ds (Q (n + 1)).1))) σ H4 (updF F2 i fs') := ⟨by rw [List.length_set]; exact Rl.len, fun m mm d e => by
          obtain ⟨b1, b2⟩ := back m mm d e
          obtain ⟨u, h1, h2⟩ := R4.rep m mm d b2
          rw [hσ m b1] at h1
          exact ⟨u, h1, h2⟩, fun m d e => R4.nd m d (back m _ d e).2, fun m m' d mm' d' hne e e' => R4.dj m m' d mm' d' hne (back m _ d e).2 (back m' _ d' e').2, fun m a e => by
          have hmi : m ≠ i := fun z => by subst z; rw [List.getElem?_set_self hil] at e; cases e
          rw [List.getElem?_set_ne (Ne.symm hmi)] at e
          exact Rl.ex m a e⟩
      have inO : ∀ a, InO (G.set i (.val true (Ds (Q (n + 1)).1))) (updF F2 i fs') a → InO (((G.set i (.val true (Ds (Q n).1))).set jt (.val false (enc y'))).set i (.val true (Ds (f (Q n).1 y').1))) (updF F2 i fs') a := fun a ⟨m, d, e, hm⟩ => ⟨m, d, (back m _ d e).2, hm⟩
      have nA5 : ∀ (m : Nat) mm d, (G.set i (.val true (Ds (Q (n + 1)).1)))[m]? = some (.val mm d) → A ∉ updF F2 i fs' m := fun m mm d e z => by
        obtain ⟨b1, b2⟩ := back m mm d e
        cases mm with
        | true => exact nA4 ⟨m, d, b2, z⟩
        | false =>
          have hmi : m ≠ i := fun q => by subst q; rw [List.getElem?_set_self (by rw [List.length_set, List.length_set]; exact hil)] at b2; cases b2
          rw [updF_ne hmi] at z
          rw [List.getElem?_set_ne (Ne.symm hmi)] at b2
          exact sA2 ⟨m, d, b2, z⟩
      have fr : Frm (InO (G.set i (.val true (Ds (Q n).1))) Fn) Hi' (InO (G.set i (.val true (Ds (Q (n + 1)).1))) (updF F2 i fs')) H4 := fun b o hb hnb => by
        obtain ⟨h1, h2⟩ := f2 b o hb hnb
        obtain ⟨h3, h4⟩ := f4 b o h1 h2
        exact ⟨h3, fun z => h4 (inO b z)⟩
      have lO : Lsts Hi' (InO (G.set i (.val true (Ds (Q n).1))) Fn) := (Rn.same sy).lsts
      obtain ⟨gd4, nn4⟩ := ps _ _ _ _ fr lO nn gA'
      refine ⟨acc, hA4, by unfold LenOk at hlen; omega, acc ++ [v], updF F2 i fs', upd_same, ?_, by simp; omega, ?_, ?_, nA5, nn4, ?_⟩
      · have ra : Reps X.K H4 [] acc ((Q n).2.map enc) := by
          have := (Reps.frm fr lO (rA.same sy) fun _ h => nomatch h).1
          exact this
        have rb := Reps.cons r4 .nil
        have := ra.append rb
        rw [eQ]
        show Reps X.K _ [] (acc ++ [v]) (((Q n).2 ++ [(f (Q n).1 y').2]).map enc)
        rw [List.map_append]
        exact this.upd hA4 (by simp)
      · exact R5.updN hA4 (.lst acc) nA5
      · intro b o hb hnb
        obtain ⟨h1, h2⟩ := fn b o hb hnb
        obtain ⟨h3, h4⟩ := fr b o (sy _ _ h1) h2
        have hbA : b ≠ A := ne_of_none hb hnA
        exact ⟨by rw [upd_ne hbA]; exact h3, h4⟩
      · have nAn : A ∉ nodes := fun z => n2 A z hA
        exact (ps (· = A) H4 (· = A) _ (frm_upd (xs := acc)) (fun b e => ⟨_, by rw [e]; exact hA4, .lst acc⟩) (fun a ha e => nAn (by rw [← e]; exact ha)) gd4).1
  · rintro Hn ⟨acc, Fn, hAc, rA, lA, Rn, fn, nA, nn, gA⟩
    have eQ : Q xs.length = mapAcc f s0 xs := by
      show (xs.take xs.length).foldl _ _ = _
      rw [List.take_length]
      rfl
    rw [eQ] at rA Rn fn nA
    have R6 := Rn.putD (i := j) (fp := [A]) (.lst (ds := (mapAcc f s0 xs).2.map enc) hAc rA) (by rw [List.length_set]; exact blt_lt hl) (by simp) (fun m mm d e a ha => by rw [List.mem_singleton.mp ha]; exact nA m mm d e)
    refine r2 _ _ _ D R6 hpR (k.of fun b o hb hnb => ?_)
    obtain ⟨h1, h2⟩ := fn b o hb hnb
    refine ⟨h1, fun ⟨m, d, e, hm⟩ => ?_⟩
    by_cases hmj : m = j
    · subst hmj
      rw [updF_same] at hm
      rw [List.mem_singleton.mp hm, hnA] at hb
      cases hb
    · rw [updF_ne hmj] at hm
      exact h2 ⟨m, d, set_ne hmj e, hm⟩
theorem sx_setLcMV {S0 t U : Type} [Enc t] [Flat t] [Enc U] [Flat U] {xs : List t} {Ds : S0 → D} {f : S0 → t → S0 × U} {pe : S0 → t → Prop} {pI p1 p2 : Prop} {y : Str} {elt tg iter : Expr} {scope : Scope} {own : List (Str × Nat)} {lpos py : Pos} {pR : S0 × List U → Prop} {rR : S0 × List U → R} {jt : Nat} (s0 : S0)
    (C : Cxf X N sc) (i j : Nat) (Vj : N[j]? = some y) (hy : sc.names.lookup y = some .local) (hG : G.length = N.length) (hI : IX X G tg iter pI xs) (ok : BlkOk N sc scope own)
    (hjt : jt ∈ own.map (·.2)) (hno : ∀ k ∈ own.map (·.2), G[k]? = some .no) (hij : i ∉ own.map (·.2))
    (hT : ∀ (s : Shared) (H : Hp) (D : Addr) (cl : List (Str × Addr)) (fp : List Addr), TGT (X.blk s H scope (compEnvC scope cl D X.env) fp) N.length tg [jt] (fun G (x : t) => G.set jt (.val false (enc x))))
    (he : ∀ (s : Shared) (H : Hp) (D : Addr) (cl : List (Str × Addr)) (fp : List Addr) (st : S0) (x : t), MX (X.blk s H scope (compEnvC scope cl D X.env) fp) ((G.set i (.val true (Ds st))).set jt (.val false (enc x))) elt (pe st x) i (Ds (f st x).1) (f st x).2)
    (hR : ∀ q : S0 × List U, SX X W ((G.set i (.val true (Ds q.1))).set j (.val true (enc q.2))) rest (pR q) g gb (.ret (rR q) : Out S B R))
    (c1 : Cmb pI (foldP (fun (q : S0 × List U) x => pe q.1 x) (accS f) (s0, []) xs) p1) (c2 : Cmb p1 (LenOk xs.length) p2) (c3 : Cmb p2 (lt (mapAcc f s0 xs) pR) p)
    (hi : G[i]? = some (.val true (Ds s0)) := by rfl) (hl : Nat.blt j G.length = true := by rfl) (hji : j ≠ i) (hkd : sc.kind = .function) (hll : (py.line == lpos.line) = true) (ha : (scope.names.any fun (n, k) => n == y && (k == .local || k == .cell)) = false)
    (hs : ∀ x, foldedSetIterable iter X.env x = pure x := by intro _; rfl) :
    SX X W G (.Assign [.Name y py] (.ListComp elt [⟨tg, iter, [], 0⟩] scope lpos) pos :: rest) p g gb (.ret (lt (mapAcc f s0 xs) rR) : Out S B R) :=
  sx_setLcM (oR := fun q => (.ret (rR q) : Out S B R)) (Ds := Ds) (f := f) (pe := pe) (jt := jt) s0 C i j Vj hy hG hI ok hjt hno hij hT he hR c1 c2 c3 hi hl hji hkd hll ha hs
theorem sx_setLcMF {S0 t U : Type} [Enc t] [Flat t] [Enc U] [Flat U] {xs : List t} {Ds : S0 → D} {f : S0 → t → S0 × U} {pe : S0 → t → Prop} {pI p1 p2 : Prop} {y : Str} {elt tg iter : Expr} {scope : Scope} {own : List (Str × Nat)} {lpos py : Pos} {pR : S0 × List U → Prop} {rR : S0 × List U → S} {jt : Nat} (s0 : S0)
    (C : Cxf X N sc) (i j : Nat) (Vj : N[j]? = some y) (hy : sc.names.lookup y = some .local) (hG : G.length = N.length) (hI : IX X G tg iter pI xs) (ok : BlkOk N sc scope own)
    (hjt : jt ∈ own.map (·.2)) (hno : ∀ k ∈ own.map (·.2), G[k]? = some .no) (hij : i ∉ own.map (·.2))
    (hT : ∀ (s : Shared) (H : Hp) (D : Addr) (cl : List (Str × Addr)) (fp : List Addr), TGT (X.blk s H scope (compEnvC scope cl D X.env) fp) N.length tg [jt] (fun G (x : t) => G.set jt (.val false (enc x))))
    (he : ∀ (s : Shared) (H : Hp) (D : Addr) (cl : List (Str × Addr)) (fp : List Addr) (st : S0) (x : t), MX (X.blk s H scope (compEnvC scope cl D X.env) fp) ((G.set i (.val true (Ds st))).set jt (.val false (enc x))) elt (pe st x) i (Ds (f st x).1) (f st x).2)
    (hR : ∀ q : S0 × List U, SX X W ((G.set i (.val true (Ds q.1))).set j (.val true (enc q.2))) rest (pR q) g gb (.fall (rR q) : Out S B R))
    (c1 : Cmb pI (foldP (fun (q : S0 × List U) x => pe q.1 x) (accS f) (s0, []) xs) p1) (c2 : Cmb p1 (LenOk xs.length) p2) (c3 : Cmb p2 (lt (mapAcc f s0 xs) pR) p)
    (hi : G[i]? = some (.val true (Ds s0)) := by rfl) (hl : Nat.blt j G.length = true := by rfl) (hji : j ≠ i) (hkd : sc.kind = .function) (hll : (py.line == lpos.line) = true) (ha : (scope.names.any fun (n, k) => n == y && (k == .local || k == .cell)) = false)
    (hs : ∀ x, foldedSetIterable iter X.env x = pure x := by intro _; rfl) :
    SX X W G (.Assign [.Name y py] (.ListComp elt [⟨tg, iter, [], 0⟩] scope lpos) pos :: rest) p g gb (.fall (lt (mapAcc f s0 xs) rR) : Out S B R) :=
  sx_setLcM (oR := fun q => (.fall (rR q) : Out S B R)) (Ds := Ds) (f := f) (pe := pe) (jt := jt) s0 C i j Vj hy hG hI ok hjt hno hij hT he hR c1 c2 c3 hi hl hji hkd hll ha hs
end
/-- a def that is never called -/
theorem fn_dead {P : Program} {w : World} {K : PySem.W.Frag} {mg : Str → Option Value} {base : Heap} {CX : CXT} {k : Nat} {f : Addr} {fd : FuncData} {ps : List Str} {A R : Type} [Enc R] {encs : A → List D} {val : A → R} : FnOk P w K mg base CX k f fd ps (spV K mg encs (fun _ => False) val) :=
  ⟨fun _ _ _ _ h => by obtain ⟨_, _, _, h, _⟩ := h; exact h.elim, fun _ _ _ _ _ _ _ _ _ _ _ _ _ h => by obtain ⟨_, _, _, h, _⟩ := h; exact h.elim⟩
end BW

set_option Elab.async false
set_option linter.all false
set_option maxRecDepth 100000
set_option maxHeartbeats 4000000
/-! sorted of marks. -/
namespace L2
open PySem PySem.Spec PyProof.Rows
section
variable {X : Cx}
/-- sorted(d) of a dict whose keys are ints, any number of them -/
theorem call_sortedDI2 (hcalm : X.calm = true) : CallR X (.builtin "sorted") (fun xs H Q => ∃ (a : Addr) (kvs : List (Key × V)) (ks : List Int), xs = [.ref a] ∧ Rd H a (.dK kvs) ∧ kvs.map (·.1) = ks.map Sum.inl ∧
    ∀ (ys : List Int) (p : Addr), ys.Perm ks → ys.Pairwise (· ≤ ·) → H p = none → Q (.ref p) (upd H p (.lst (ys.map V.int)))) := by
  intro pins s σ H xs us Q I r q
  obtain ⟨a, kvs, ks, ex, hd, hks, q⟩ := q
  subst ex
  obtain ⟨u, eu, rx⟩ := vals1 r
  subst eu
  cases rx
  obtain ⟨z, lo, vs, rel, dd⟩ := dk_rd I.hok hd
  obtain ⟨ep, hat⟩ := dd.dictAt
  have hkeys : vs.map (·.1) = ks.map Sum.inl := rel.keys.symm.trans hks
  have hl : vs.length = ks.length := by
    have e := congrArg List.length hkeys
    rw [List.length_map, List.length_map] at e
    exact e
  have h16 : vs.length ≤ sizeLine := by rw [← rel.length]; exact z
  refine Calls.call_function_entry PyProof.Rows.kind_sorted PyProof.Rows.plain_sorted PyProof.Rows.entry_sorted (PyProof.Rows.args_sorted1 _) ?_
  unfold Builtin.«sorted»
  refine wpAny_bind (m := checkCount "sorted" 1 1 _) (wpAny_pure ?_)
  refine wpAny_bind (PySem.W.kdu_collect (A := X.A.in1) (PySem.W.kdl_dict (knd := mixKind X.prog X.w) (kvs := vs) (ep := ep) lo) (I.ok.hd hcalm) hat h16 fun h' tk acc hk hacc => ?_)
  have hal : acc.toList.length = ks.length := by rw [Array.length_toList, hacc.1, hl]
  have hS : IntsAre acc.toList ks := ints_each hal fun j v e => by
    obtain ⟨k, x, e1, e2⟩ := hacc.2 j v (by rw [← Array.getElem?_toList]; exact e)
    have e3 : (vs.map (·.1))[j]? = some k := by rw [List.getElem?_map, e1]; rfl
    rw [hkeys, List.getElem?_map] at e3
    cases e4 : ks[j]? with
    | none => rw [e4] at e3; cases e3
    | some y =>
      rw [e4] at e3
      have e5 : Sum.inl y = k := Option.some.inj e3
      subst e5
      rcases keyIs_shape (show keyIs (Sum.inl y) v = true from e2) with ⟨i, t, ek, ev⟩ | ⟨z, t, ek, ev⟩
      · cases ek
        exact ⟨y, t, rfl, ev⟩
      · cases ek
  have I1 : Inv X pins σ H { s with heap := h', toks := tk } := I.kept hk
  refine wpAny_bind (wpAny_newList ?_ (by rw [hal, ← hl]; exact h16))
  have hoL : (h'.push (seqObj "list" acc.toList.toArray 0)).get? h'.objs.size = some (seqObj "list" acc.toList.toArray 0) := Heap.get?_push_size _ rfl
  show wpAny _ _ _ _ _ { s with heap := h'.push (seqObj "list" acc.toList.toArray 0), toks := tk }
  refine wpAny_bind (wpAny_holding (wpAny_call_entry PyProof.Rows.slot_list_sort ⟨_, hoL, rfl⟩ PyProof.Rows.entry_list_sort
    (SrtO.list_sort_ord (s := { s with heap := h'.push (seqObj "list" acc.toList.toArray 0), toks := tk }) SrtO.swo_int hoL (by rw [hal, ← hl]; exact h16) (fun h2 => SrtO.ints_sortable hS h2) fun out g1 g2 => ⟨_, rfl, ?_⟩) (PyProof.Rows.args_list_sort _)))
  obtain ⟨k1, k2, k3⟩ := SrtO.ints_out hS g1 g2
  obtain ⟨e', he'⟩ := PyProof.Rows.sortedHeap_at (vs := acc.toList) (out := out.toArray) hoL
  have hlen : ((out.map SrtO.iv).map V.int).length ≤ sizeLine := by
    rw [List.length_map, k2.length_eq, ← hl]
    exact h16
  refine wpAny_pure ⟨_, rfl, .ref h'.objs.size, upd H h'.objs.size (.lst ((out.map SrtO.iv).map V.int)), I1.laid (t' := tk) (fun b u e => ?_) (Nat.le_refl _)
    (show ObjOk X.prog X.w _ _ _ (.lst ((out.map SrtO.iv).map V.int)) from ⟨hlen, out, e', vals_of_ints k1, he'⟩), rfl, q _ _ k2 k3 (I1.hok.fresh (Nat.le_refl _))⟩
  have hb : b < h'.objs.size := Heap.lt_size e
  rw [PyProof.Rows.sortedHeap_old (Nat.ne_of_lt hb) (by rw [size_push']; exact Nat.lt_succ_of_lt hb)]
  exact Heap.get?_push_of_some _ e
end
end L2
namespace BW
open PySem L2
section
variable {X : Cx} {G : Gam} {N : List Str} {sc : Scope} {e a b c : Expr} {p pa pb : Prop} {pos ppos : Pos}
theorem ex_sortedMrk (C : Cxf X N sc) (hg : sc.names.lookup ("sorted" : Str) = some .globalImplicit) (hm : X.mg "sorted" = none) {d : Mrk} {k : Kd} (ha : EX X G e p d k) (hs : starEach [e] X.env = (false, eval e X.env) :: starEach [] X.env := by rfl) :
    EX X G (.Call (.Name "sorted" ppos) [e] [] pos) p (sortI d.ks) .frs := by
  obtain ⟨ta, a1, a2⟩ := ax1 ha hs
  refine ⟨_, pe_callB (call_sortedDI2 C.calm) (C.gl hg) hm (by decide +kernel) a1 (by decide) (by decide) hs rfl, fun σ H F Q R hp q => ?_⟩
  refine a2 σ H F _ R hp fun vs H1 fp s1 r1 _ => ?_
  obtain ⟨v, rfl, rv⟩ := r1.one
  obtain ⟨l, rfl, hl, _⟩ := rv.mk_inv
  refine ⟨l, mkv d.ks, d.ks, rfl, .inl hl, by unfold mkv; rw [List.map_map]; rfl, fun ns' p' h1 h2 hn => ?_⟩
  obtain rfl := sortI_eq h1 h2
  refine q _ _ [p'] (s1.trans (Same.upd hn)) (.lst upd_same ((Reps.of_ints _).same (Same.upd hn))) ⟨by simp, fun a ha => by rw [List.mem_singleton.mp ha]; exact s1.free hn⟩
end
end BW

set_option Elab.async false
set_option linter.all false
set_option maxRecDepth 100000
set_option maxHeartbeats 4000000
/-! list(zip(a, b)). -/
namespace Zl
open PySem PySem.Calls PyProof.Rows PyProof.V PySem.Spec
/-- the pairs made, at their addresses -/
structure ZG (ps : List (Value × Value)) (lo : Addr) (h : Heap) (as : List Addr) : Prop where
  rise : as.Pairwise (· < ·)
  above : ∀ a ∈ as, lo < a
  pairs : ∀ (j : Nat) (a : Addr), as[j]? = some a → ∃ x y, ps[j]? = some (x, y) ∧ IsPair h a x y
theorem ZG.there {ps : List (Value × Value)} {lo : Addr} {h : Heap} {as : List Addr} (g : ZG ps lo h as) {a : Addr} (ha : a ∈ as) : a < h.objs.size := by
  obtain ⟨j, hj⟩ := List.mem_iff_getElem?.mp ha
  obtain ⟨_, _, _, e⟩ := g.pairs j a hj
  exact Heap.lt_size e
/-- the zip, i pairs drawn -/
structure ZSt (h : Heap) (S z TI TO i1 i2 l1 l2 : Addr) (xs ys : Array Value) (i : Nat) : Prop where
  ti : IsPair h TI (.ref i1) (.ref i2)
  a1 : h.IsListIter i1 l1 i
  a2 : h.IsListIter i2 l2 i
  b1 : h.IsList l1 xs
  b2 : h.IsList l2 ys
  st : (IsZip h z TI TO .none ∧ ∃ a b, IsPair h TO a b) ∨ ∃ T f oT, IsZipHeld h z TI TO T f ∧ h.get? T = some oT ∧ S < T
structure Below (S z TI TO i1 i2 l1 l2 : Addr) : Prop where
  z : z < S
  TI : TI < S
  TO : TO < S
  i1 : i1 < S
  i2 : i2 < S
  l1 : l1 < S
  l2 : l2 < S
theorem ZSt.keep {h h' : Heap} {S z TI TO i1 i2 l1 l2 : Addr} {xs ys : Array Value} {i : Nat} (B : Below S z TI TO i1 i2 l1 l2) (q : ZSt h S z TI TO i1 i2 l1 l2 xs ys i) (up : ∀ b o, b ≠ S → h.get? b = some o → h'.get? b = some o) : ZSt h' S z TI TO i1 i2 l1 l2 xs ys i := by
  have ne : ∀ {a : Addr}, a < S → a ≠ S := fun h => Nat.ne_of_lt h
  refine ⟨up _ _ (ne B.TI) q.ti, q.a1.at fun o e => up _ o (ne B.i1) e, q.a2.at fun o e => up _ o (ne B.i2) e, q.b1.at fun o e => up _ o (ne B.l1) e, q.b2.at fun o e => up _ o (ne B.l2) e, ?_⟩
  rcases q.st with ⟨h1, a, b, h2⟩ | ⟨T, f, oT, h1, h2, h3⟩
  · exact .inl ⟨up _ _ (ne B.z) h1, a, b, up _ _ (ne B.TO) h2⟩
  · exact .inr ⟨T, f, oT, up _ _ (ne B.z) h1, up _ _ (Nat.ne_of_gt h3) h2, h3⟩
section
variable {prog : Program} {w : World} {A : Around} {E : Value → Shared → Prop} {s : Shared}
theorem zs_item {S z TI TO i1 i2 l1 l2 : Addr} {xs ys : Array Value} {i : Nat} {x y : Value} {Q : Option Value → Shared → Prop} (D : ZipApart z TI TO i1 i2 l1 l2) (B : Below S z TI TO i1 i2 l1 l2) (q : ZSt s.heap S z TI TO i1 i2 l1 l2 xs ys i) (hS : S < s.heap.objs.size) (hx : xs[i]? = some x) (hy : ys[i]? = some y)
    (hQ : ∀ h', ZSt h' S z TI TO i1 i2 l1 l2 xs ys (i + 1) → IsPair h' s.heap.objs.size x y → (∀ c o, c ≠ z → c ≠ TO → c ≠ i1 → c ≠ i2 → s.heap.get? c = some o → h'.get? c = some o) → Q (some (.ref s.heap.objs.size)) { s with heap := h' }) :
    wpAny (model prog w) A (pyNext (.ref z)) Q E s := by
  rcases q.st with ⟨h1, a, b, h2⟩ | ⟨T, f, oT, h1, h2, h3⟩
  · refine wpAny_pyNext_zip_item D h1 q.ti h2 q.a1 q.a2 q.b1 q.b2 hx hy fun h' c1 c2 c3 c4 c5 c6 c7 => hQ h' ⟨c7 _ _ D.TIz D.TITO D.TIi1 D.TIi2 q.ti, c3, c4, q.b1.at fun o e => c7 _ o D.l1z D.l1TO D.l1i1 D.l1i2 e, q.b2.at fun o e => c7 _ o D.l2z D.l2TO D.l2i1 D.l2i2 e, .inr ⟨_, false, _, c1, c5, hS⟩⟩ c5 c7
  · have hTl := Heap.lt_size h2
    refine wpAny_pyNext_zip_item_held D h1 h2 q.ti q.a1 q.a2 q.b1 q.b2 hx hy fun h' c1 c3 c4 c5 c6 c7 => hQ h' ⟨c7 _ _ D.TIz D.TIi1 D.TIi2 q.ti, c3, c4, q.b1.at fun o e => c7 _ o D.l1z D.l1i1 D.l1i2 e, q.b2.at fun o e => c7 _ o D.l2z D.l2i1 D.l2i2 e, .inr ⟨T, true, oT, c1, c7 _ _ ?_ ?_ ?_ h2, h3⟩⟩ c5 fun c o n1 _ n3 n4 e => c7 c o n1 n3 n4 e
    · exact Nat.ne_of_gt (Nat.lt_trans B.z h3)
    · exact Nat.ne_of_gt (Nat.lt_trans B.i1 h3)
    · exact Nat.ne_of_gt (Nat.lt_trans B.i2 h3)
theorem zs_done {S z TI TO i1 i2 l1 l2 : Addr} {xs ys : Array Value} {i : Nat} {Q : Option Value → Shared → Prop} (hh : A.handled = none) (D : ZipApart z TI TO i1 i2 l1 l2) (q : ZSt s.heap S z TI TO i1 i2 l1 l2 xs ys i) (hend : xs[i]? = none ∨ ys[i]? = none)
    (hQ : ∀ h', (∀ c o, c ≠ z → c ≠ TO → c ≠ i1 → c ≠ i2 → s.heap.get? c = some o → h'.get? c = some o) → Q none { s with heap := h' }) :
    wpAny (model prog w) A (pyNext (.ref z)) Q E s := by
  rcases q.st with ⟨h1, a, b, h2⟩ | ⟨T, f, oT, h1, h2, h3⟩
  · exact wpAny_pyNext_zip_end hh D h1 q.ti h2 q.a1 q.a2 q.b1 q.b2 hend hQ
  · exact wpAny_pyNext_zip_end_held hh D h1 h2 q.ti q.a1 q.a2 q.b1 q.b2 hend fun h' c => hQ h' fun c' o n1 _ n3 n4 e => c c' o n1 n3 n4 e
end
section
variable {prog : Program} {w : World} {A : Around} {s : Shared} {R : Result → Shared → Prop}
theorem z_loop {S z TI TO i1 i2 l1 l2 : Addr} {xs ys : Array Value} (hh : A.handled = none) (D : ZipApart z TI TO i1 i2 l1 l2) (B : Below S z TI TO i1 i2 l1 l2) (hn : (xs.toList.zip ys.toList).length ≤ sizeLine) (res : Value) {h₁ : Heap}
    (hR : ∀ h' tk acc c as, (∀ b o, b ≠ S → b ≠ z → b ≠ TO → b ≠ i1 → b ≠ i2 → h₁.get? b = some o → h'.get? b = some o) → h'.get? S = some { cls := .type "list", dict := none, data := .seq acc c, slots := #[] } → as.length = (xs.toList.zip ys.toList).length → ZG (xs.toList.zip ys.toList) S h' as →
      acc.toList = as.map Value.ref → R (.ok (.ret res)) { s with heap := h', toks := tk }) :
    ∀ (k i : Nat) (h : Heap) (tk c : Nat) (acc : Array Value) (as : List Addr), (xs.toList.zip ys.toList).length - i = k → i ≤ (xs.toList.zip ys.toList).length → ZSt h S z TI TO i1 i2 l1 l2 xs ys i → (∀ b o, b ≠ S → b ≠ z → b ≠ TO → b ≠ i1 → b ≠ i2 → h₁.get? b = some o → h.get? b = some o) →
      h.get? S = some { cls := .type "list", dict := none, data := .seq acc c, slots := #[] } → acc.toList = as.map Value.ref → as.length = i → ZG (xs.toList.zip ys.toList) S h as →
      codeAny (model prog w) A (.builtin "list.extend.loop" ⟨[.ref S, .ref z, res], []⟩) R { s with heap := h, toks := tk } := by
  have ne : ∀ {a : Addr}, a < S → S ≠ a := fun h => Nat.ne_of_gt h
  intro k
  induction k with
  | zero =>
    intro i h tk c acc as hk hi hst hkeep hS hacc hal hG
    have hin : i = (xs.toList.zip ys.toList).length := by omega
    have hend : xs[i]? = none ∨ ys[i]? = none := by
      rw [List.length_zip, Array.length_toList, Array.length_toList] at hin
      rcases Nat.le_total xs.size ys.size with q | q
      · exact .inl (Array.getElem?_eq_none (by omega))
      · exact .inr (Array.getElem?_eq_none (by omega))
    refine codeAny_builtin PySem.F.entry_extend_loop ?_
    rw [Around.under_plainId PySem.F.plain_extend_loop _]
    show wpAny _ A.in1 (pyNext (.ref z) >>= _) _ _ _
    refine wpAny_bind (zs_done (s := { s with heap := h, toks := tk }) (A := A.in1) hh D hst hend fun h' he => ?_)
    refine wpAny_pure (hR h' tk acc c as (fun b o n0 n1 n2 n3 n4 e => he b o n1 n2 n3 n4 (hkeep b o n0 n1 n2 n3 n4 e)) (he S _ (ne B.z) (ne B.TO) (ne B.i1) (ne B.i2) hS) (by omega) ⟨hG.rise, hG.above, fun j a hj => ?_⟩ hacc)
    obtain ⟨x, y, e1, e2⟩ := hG.pairs j a hj
    have ha := hG.above a (List.mem_of_getElem? hj)
    exact ⟨x, y, e1, he a _ (Nat.ne_of_gt (Nat.lt_trans B.z ha)) (Nat.ne_of_gt (Nat.lt_trans B.TO ha)) (Nat.ne_of_gt (Nat.lt_trans B.i1 ha)) (Nat.ne_of_gt (Nat.lt_trans B.i2 ha)) e2⟩
  | succ k ih =>
    intro i h tk c acc as hk hi hst hkeep hS hacc hal hG
    have hlt : i < (xs.toList.zip ys.toList).length := by omega
    obtain ⟨⟨x, y⟩, hxy⟩ : ∃ p, (xs.toList.zip ys.toList)[i]? = some p := ⟨_, List.getElem?_eq_getElem hlt⟩
    obtain ⟨hx, hy⟩ := List.getElem?_zip_eq_some.mp hxy
    rw [Array.getElem?_toList] at hx hy
    have hsz : acc.size = i := by rw [← Array.length_toList, hacc, List.length_map, hal]
    have hSl : S < h.objs.size := Heap.lt_size hS
    refine codeAny_builtin PySem.F.entry_extend_loop ?_
    rw [Around.under_plainId PySem.F.plain_extend_loop _]
    show wpAny _ A.in1 (pyNext (.ref z) >>= _) _ _ _
    refine wpAny_bind (zs_item (s := { s with heap := h, toks := tk }) D B hst hSl hx hy fun h' hst' ht hkp => ?_)
    dsimp only at ht hkp ⊢
    have hS' := hkp S _ (ne B.z) (ne B.TO) (ne B.i1) (ne B.i2) hS
    have up : ∀ b o, b ≠ S → h'.get? b = some o → (h'.update S (Obj.mapSeq (·.push (Value.ref h.objs.size)))).get? b = some o := fun b o hb e => (Heap.get?_update_other _ _ (Ne.symm hb)).trans e
    show wpAny _ A.in1 (updateSeq S (·.push (Value.ref h.objs.size)) >>= _) _ _ _
    refine wpAny_bind ?_
    refine wpAny_updateSeq hS' rfl (wpAny_pure ⟨plainId_quiet PySem.F.plain_extend_loop _, ih (i + 1) _ tk _ (acc.push (Value.ref h.objs.size)) (as ++ [h.objs.size]) (by omega) hlt (hst'.keep B up)
      (fun b o n0 n1 n2 n3 n4 e => up b o n0 (hkp b o n1 n2 n3 n4 (hkeep b o n0 n1 n2 n3 n4 e))) (Heap.get?_update_self _ hS' rfl) (by rw [Array.toList_push, hacc, List.map_append]; rfl) (by rw [List.length_append, hal]; rfl) ⟨?_, ?_, ?_⟩⟩) (by rw [hsz]; omega) (by show (acc.push (Value.ref h.objs.size)).size ≤ sizeLine + 1; rw [Array.size_push, hsz]; omega)
    · refine List.pairwise_append.mpr ⟨hG.rise, List.pairwise_singleton _ _, fun a ha b hb => ?_⟩
      rw [List.mem_singleton.mp hb]
      exact hG.there ha
    · intro a ha
      rcases List.mem_append.mp ha with ha | ha
      · exact hG.above a ha
      · rw [List.mem_singleton.mp ha]; exact hSl
    · intro j b hj
      rcases Nat.lt_trichotomy j as.length with h1 | h1 | h1
      · rw [List.getElem?_append_left h1] at hj
        obtain ⟨x', y', e1, e2⟩ := hG.pairs j b hj
        have hb := hG.above b (List.mem_of_getElem? hj)
        exact ⟨x', y', e1, up b _ (Nat.ne_of_gt hb) (hkp b _ (Nat.ne_of_gt (Nat.lt_trans B.z hb)) (Nat.ne_of_gt (Nat.lt_trans B.TO hb)) (Nat.ne_of_gt (Nat.lt_trans B.i1 hb)) (Nat.ne_of_gt (Nat.lt_trans B.i2 hb)) e2)⟩
      · subst h1
        have hb : h.objs.size = b := by simpa using hj
        subst hb
        exact ⟨x, y, by rw [hal]; exact hxy, up _ _ (Nat.ne_of_gt hSl) ht⟩
      · have hnone : (as ++ [h.objs.size])[j]? = none := List.getElem?_eq_none (by rw [List.length_append, List.length_singleton]; omega)
        rw [hnone] at hj; cases hj
end
theorem zip_no_len : typeLookup (.type "zip") "__len__" = pure none := by rw [typeLookup_type, builtinLookup_eq_fast]; kernel_rfl
theorem zip_no_hint : typeLookup (.type "zip") "__length_hint__" = pure none := by rw [typeLookup_type, builtinLookup_eq_fast]; kernel_rfl
section
variable {prog : Program} {w : World} {A : Around} {E : Value → Shared → Prop} {s : Shared}
theorem z_list {z TI TO i1 i2 l1 l2 : Addr} {xs ys : Array Value} {Q : Value → Shared → Prop} (hh : A.handled = none) (D : ZipApart z TI TO i1 i2 l1 l2) (hz : IsZip s.heap z TI TO .none) (hTI : IsPair s.heap TI (.ref i1) (.ref i2)) {a b : Value} (hTO : IsPair s.heap TO a b)
    (h1 : s.heap.IsListIter i1 l1 0) (h2 : s.heap.IsListIter i2 l2 0) (hl1 : s.heap.IsList l1 xs) (hl2 : s.heap.IsList l2 ys) (hn : (xs.toList.zip ys.toList).length ≤ sizeLine)
    (hQ : ∀ h' tk acc c as, (∀ b o, b ≠ z → b ≠ TO → b ≠ i1 → b ≠ i2 → s.heap.get? b = some o → h'.get? b = some o) → h'.get? s.heap.objs.size = some { cls := .type "list", dict := none, data := .seq acc c, slots := #[] } → as.length = (xs.toList.zip ys.toList).length → ZG (xs.toList.zip ys.toList) s.heap.objs.size h' as →
      acc.toList = as.map Value.ref → Q (.ref s.heap.objs.size) { s with heap := h', toks := tk }) :
    wpAny (model prog w) A (call (.type "list") [.ref z]) Q E s := by
  have B : Below s.heap.objs.size z TI TO i1 i2 l1 l2 := ⟨Heap.lt_size hz, Heap.lt_size hTI, Heap.lt_size hTO, (by obtain ⟨_, e, _⟩ := h1; exact Heap.lt_size e), (by obtain ⟨_, e, _⟩ := h2; exact Heap.lt_size e), (by obtain ⟨_, e, _⟩ := hl1; exact Heap.lt_size e), (by obtain ⟨_, e, _⟩ := hl2; exact Heap.lt_size e)⟩
  have q0 : ZSt s.heap s.heap.objs.size z TI TO i1 i2 l1 l2 xs ys 0 := ⟨hTI, h1, h2, hl1, hl2, .inl ⟨hz, a, b, hTO⟩⟩
  refine callType_codes (Q₁ := fun obj s₁ => obj = .ref s.heap.objs.size ∧ s₁ = { s with heap := s.heap.push { cls := .type "list", data := .seq #[] } }) PySem.F.called_list (PySem.F.typeCall_list_1 _) PySem.F.entry_list_init
    (code_list_new _ ⟨rfl, rfl⟩) fun obj s₁ h₁ => ?_
  obtain ⟨rfl, rfl⟩ := h₁
  have hS : (s.heap.push { cls := .type "list", data := .seq #[] }).get? s.heap.objs.size = some { cls := .type "list", data := .seq #[] } := Heap.get?_push_size _ rfl
  refine ⟨⟨_, hS, rfl⟩, PySem.F.args_list_init_2 _ _, ?_⟩
  show wpAny _ A.in1.in1 (do let old ← Builtin.List.listItems (.ref s.heap.objs.size); Builtin.List.listUpdate (.ref s.heap.objs.size) (fun _ => #[]); letGo old.toList.reverse; Builtin.List.listExtendWith (.ref s.heap.objs.size) (.ref z) .none) _ _ _
  refine wpAny_bind ?_
  unfold Builtin.List.listItems
  refine wpAny_bind (wpAny_seqItems hS rfl (wpAny_pure ?_))
  show wpAny _ A.in1.in1 (updateSeq s.heap.objs.size (fun _ => #[]) >>= fun _ => letGo (#[] : Array Value).toList.reverse >>= fun _ => Builtin.List.listExtendWith (.ref s.heap.objs.size) (.ref z) .none) _ _ _
  refine wpAny_bind (wpAny_updateSeq hS rfl ?_)
  have hS2 := Heap.get?_update_self (Obj.mapSeq (fun _ => (#[] : Array Value))) hS rfl
  refine wpAny_bind (wpAny_letGo ?_)
  unfold Builtin.List.listExtendWith
  have k1 : ∀ b o, b ≠ s.heap.objs.size → s.heap.get? b = some o → (s.heap.push { cls := .type "list", data := .seq #[] }).get? b = some o := fun b o _ e => Heap.get?_push_of_some _ e
  have up : ∀ (h : Heap) (f : Obj → Obj), (∀ b o, b ≠ s.heap.objs.size → s.heap.get? b = some o → h.get? b = some o) → ∀ b o, b ≠ s.heap.objs.size → s.heap.get? b = some o → (h.update s.heap.objs.size f).get? b = some o := fun h f q b o hb e =>
    (Heap.get?_update_other _ _ (Ne.symm hb)).trans (q b o hb e)
  have k2 := up _ (Obj.mapSeq (fun _ => (#[] : Array Value))) k1
  have hne : z ≠ s.heap.objs.size := Nat.ne_of_lt B.z
  have hT2 : Shared.TypeIs { s with heap := (s.heap.push { cls := .type "list", data := .seq #[] }).update s.heap.objs.size (Obj.mapSeq (fun _ => (#[] : Array Value))) } (.ref z) "zip" := ⟨_, k2 _ _ hne hz, rfl⟩
  refine wpAny_bind (wpAny_typeOf hT2 ?_)
  have e1 : Builtin.List.listSameRef (.ref s.heap.objs.size) (.ref z) = false := by simp [Builtin.List.listSameRef, Ne.symm hne]
  have e2 : (Value.type "zip" == Value.type "list") = false := by decide
  have e3 : (Value.type "zip" == Value.type "tuple") = false := by decide
  simp only [e1, e2, e3, Bool.or_false, Bool.false_eq_true, if_false]
  refine wpAny_bind (wpAny_pyIter_zip (s := { s with heap := _ }) (k2 _ _ hne hz) ?_)
  refine wpAny_bind (wpAny_holding ?_)
  unfold Builtin.List.listLengthHint
  refine wpAny_bind (wpAny_specialOf hT2 zip_no_len ?_)
  show wpAny _ A.in1.in1 (specialOf (Value.ref z) (Str.ofString "__length_hint__") >>= _) _ _ _
  refine wpAny_bind (wpAny_specialOf hT2 zip_no_hint ?_)
  refine wpAny_pure ?_
  show wpAny _ A.in1.in1 (rule "list.extend.makes-room" >>= fun _ => Builtin.List.listTouch (.ref s.heap.objs.size) >>= fun _ =>
    again (.builtin "list.extend.loop" ⟨[.ref s.heap.objs.size, .ref z, .none], []⟩)) _ _ _
  refine wpAny_bind (wpAny_rule ?_)
  refine wpAny_bind ?_
  show wpAny _ A.in1.in1 (updateSeq s.heap.objs.size (·.push .none) >>= fun _ => updateSeq s.heap.objs.size (·.pop)) _ _ _
  refine wpAny_bind (wpAny_updateSeq hS2 rfl ?_)
  have hS3 := Heap.get?_update_self (Obj.mapSeq (·.push Value.none)) hS2 rfl
  refine wpAny_updateSeq (hz := by seq_fits) hS3 rfl ?_
  have hS4 := Heap.get?_update_self (Obj.mapSeq (·.pop)) hS3 rfl
  have k4 := up _ (Obj.mapSeq (·.pop)) (up _ (Obj.mapSeq (·.push Value.none)) k2)
  refine wpAny_pure ⟨plainId_quiet PySem.F.plain_extend_loop _, ?_⟩
  refine z_loop (A := A.in1) (s := s) (h₁ := s.heap) hh D B hn .none (fun h' tk acc c as q1 q2 q3 q4 q5 => ⟨rfl, hQ h' tk acc c as (fun b o n1 n2 n3 n4 e => q1 b o (Nat.ne_of_lt (Heap.lt_size e)) n1 n2 n3 n4 e) q2 q3 q4 q5⟩)
    _ 0 _ s.toks _ #[] [] (Nat.sub_zero _) (Nat.zero_le _) (q0.keep B k4) (fun b o n0 _ _ _ _ e => k4 b o n0 e) hS4 rfl rfl ⟨List.Pairwise.nil, (fun _ ha => nomatch ha), (fun j a hj => by simp at hj)⟩
end
end Zl

set_option Elab.async false
set_option linter.all false
set_option maxRecDepth 100000
set_option maxHeartbeats 4000000
/-! list(zip(a, b)): the rule. -/
namespace Zl
open PySem PySem.Spec PyProof.Rows L2
/-- the pairs tracked at their addresses -/
def putP : Hp → List Addr → List (V × V) → Hp
  | H, a :: as, p :: ps => putP (upd H a (.tup [p.1, p.2])) as ps
  | H, _, _ => H
theorem putP_off {b : Addr} : ∀ (as : List Addr) (ps : List (V × V)) (H : Hp), b ∉ as → putP H as ps b = H b
  | [], _, _, _ => rfl
  | _ :: _, [], _, _ => rfl
  | a :: as, p :: ps, H, h => by
    show putP (upd H a (.tup [p.1, p.2])) as ps b = H b
    rw [putP_off as ps _ (fun z => h (List.mem_cons_of_mem _ z)), upd_ne (fun z => h (by rw [z]; exact List.mem_cons_self))]
theorem putP_at : ∀ (as : List Addr) (ps : List (V × V)) (H : Hp), as.length = ps.length → as.Nodup → ∀ (j : Nat) (t : Addr), as[j]? = some t → ∃ p, ps[j]? = some p ∧ putP H as ps t = some (.tup [p.1, p.2])
  | [], _, _, _, _, j, t, h => by simp at h
  | _ :: _, [], _, h, _, _, _, _ => by cases h
  | a :: as, p :: ps, H, h, hn, j, t, hj => by
    have hn' := List.nodup_cons.mp hn
    cases j with
    | zero =>
      have e : a = t := by simpa using hj
      subst e
      refine ⟨p, rfl, ?_⟩
      show putP (upd H a (.tup [p.1, p.2])) as ps a = _
      rw [putP_off as ps _ hn'.1, upd_same]
    | succ j =>
      rw [List.getElem?_cons_succ] at hj
      exact putP_at as ps (upd H a (.tup [p.1, p.2])) (Nat.succ.inj h) hn'.2 j t hj
theorem vals_zip : ∀ {xs ys : List V} {us vs : List Value}, Vals xs us → Vals ys vs → ∀ {j : Nat} {u v : Value}, (us.zip vs)[j]? = some (u, v) → ∃ x y, (xs.zip ys)[j]? = some (x, y) ∧ RelV x u ∧ RelV y v := by
  intro xs ys us vs h1 h2 j u v h
  obtain ⟨e1, e2⟩ := List.getElem?_zip_eq_some.mp h
  have g1 : ∀ {xs : List V} {us : List Value} {j : Nat} {u : Value}, Vals xs us → us[j]? = some u → ∃ x, xs[j]? = some x ∧ RelV x u := by
    intro xs us j u h
    induction h generalizing j with
    | nil => intro e; simp at e
    | cons r t ih =>
      intro e
      cases j with
      | zero => simp at e; subst e; exact ⟨_, rfl, r⟩
      | succ j => exact ih (by simpa using e)
  obtain ⟨x, f1, r1⟩ := g1 h1 e1
  obtain ⟨y, f2, r2⟩ := g1 h2 e2
  exact ⟨x, y, List.getElem?_zip_eq_some.mpr ⟨f1, f2⟩, r1, r2⟩
def tListZip (K : PySem.W.Frag) (ta : TA) : TE := fun σ H Q => ta σ H fun vs H1 => ∃ (a b : Addr) (xs ys : List V), vs = [.ref a, .ref b] ∧ SqL K H1 a xs ∧ SqL K H1 b ys ∧
  ∀ (H' : Hp) (p : Addr) (ts : List Addr), (∀ b o, H1 b = some o → H' b = some o) → H1 p = none → p ∉ ts → ts.length = (xs.zip ys).length → H' p = some (.lst (ts.map V.ref)) → (∀ (j : Nat) (t : Addr), ts[j]? = some t → ∃ q, (xs.zip ys)[j]? = some q ∧ H' t = some (.tup [q.1, q.2])) → Q (.ref p) H'
section
variable {X : Cx}
theorem pairs_laid {pins : List (Addr × Obj)} {σ : L2.St} {H : Hp} {s : Shared} {h' : Heap} {tk : Nat} {S : Addr} {xs ys : List V} {us vs : List Value} {acc : Array Value} {c : Nat} {as : List Addr} (I : Inv X pins σ H s) (hS0 : s.heap.objs.size ≤ S) (h1 : Vals xs us) (h2 : Vals ys vs) (hz : (xs.zip ys).length ≤ sizeLine)
    (hk : ∀ b o, s.heap.get? b = some o → h'.get? b = some o) (hS : h'.get? S = some { cls := .type "list", dict := none, data := .seq acc c, slots := #[] }) (hl : as.length = (us.zip vs).length) (hG : ZG (us.zip vs) S h' as) (hacc : acc.toList = as.map Value.ref) :
    ∃ H' : Hp, (∀ b o, H b = some o → H' b = some o) ∧ H S = none ∧ S ∉ as ∧ H' S = some (.lst (as.map V.ref)) ∧ (∀ (j : Nat) (t : Addr), as[j]? = some t → ∃ q, (xs.zip ys)[j]? = some q ∧ H' t = some (.tup [q.1, q.2])) ∧ Inv X pins σ H' { s with heap := h', toks := tk } := by
  have lk : (xs.zip ys).length = (us.zip vs).length := by rw [List.length_zip, List.length_zip, h1.length, h2.length]
  have hSn : S ∉ as := fun z => Nat.lt_irrefl _ (hG.above _ z)
  have nd : as.Nodup := List.Pairwise.imp (fun {a b} (h : a < b) => Nat.ne_of_lt h) hG.rise
  have new : ∀ t ∈ as, H t = none := fun t ht => I.hok.fresh (Nat.le_of_lt (Nat.lt_of_le_of_lt hS0 (hG.above t ht)))
  have newS : H S = none := I.hok.fresh hS0
  have atP := putP_at as (xs.zip ys) (upd H S (.lst (as.map V.ref))) (by omega) nd
  have off : ∀ b, b ∉ as → b ≠ S → putP (upd H S (.lst (as.map V.ref))) as (xs.zip ys) b = H b := fun b h1 h2 => by rw [putP_off as _ _ h1, upd_ne h2]
  have low : ∀ b o, s.heap.get? b = some o → b ∉ as ∧ b ≠ S := fun b o e => ⟨fun z => absurd (Heap.lt_size e) (Nat.not_lt.mpr (Nat.le_of_lt (Nat.lt_of_le_of_lt hS0 (hG.above b z)))), Nat.ne_of_lt (Nat.lt_of_lt_of_le (Heap.lt_size e) hS0)⟩
  have kp : ∀ b u, H b = some u → (putP (upd H S (.lst (as.map V.ref))) as (xs.zip ys)) b = some u := fun b u e => by
    rw [off b (fun z => by rw [new b z] at e; cases e) (fun z => by rw [z, newS] at e; cases e)]
    exact e
  have eS : putP (upd H S (.lst (as.map V.ref))) as (xs.zip ys) S = some (.lst (as.map V.ref)) := by rw [putP_off as _ _ hSn, upd_same]
  refine ⟨putP (upd H S (.lst (as.map V.ref))) as (xs.zip ys), kp, newS, hSn, eS, atP, ?_⟩
  refine I.call' (ch := []) rfl ⟨fun b o q _ _ _ => hk b o q, fun b o q _ _ _ => ⟨o.slots, hk b o q⟩, fun b o q n _ => ?_, fun b o q _ => ⟨o, hk b o q⟩, fun b xs q => kp b _ q, fun b o u q => kp b _ q, fun b ps q => ⟨#[], by rw [kp b _ q]; simp⟩⟩ (fun b u q => ?_) I.bare fun b z => by simp at z
  · obtain ⟨z1, z2⟩ := low b o q
    rw [off b z1 z2]
    exact n
  · by_cases hb : b ∈ as
    · obtain ⟨j, hj⟩ := List.mem_iff_getElem?.mp hb
      obtain ⟨p, e2, e3⟩ := atP j b hj
      rw [e3] at q
      cases q
      obtain ⟨x, y, f1, f3⟩ := hG.pairs j b hj
      obtain ⟨x', y', g1, g2, g3⟩ := vals_zip h1 h2 f1
      rw [g1] at e2
      obtain rfl := Option.some.inj e2
      exact ⟨by show 2 ≤ sizeLine; decide, [x, y], .cons g2 (.cons g3 .nil), ⟨_, f3, rfl, _, rfl⟩⟩
    · by_cases hb2 : b = S
      · rw [hb2] at q ⊢
        rw [eS] at q
        cases q
        refine ⟨by rw [List.length_map]; omega, acc.toList, c, by rw [hacc]; exact LiI.vals_refs as, ?_⟩
        rw [Array.toArray_toList]
        exact hS
      · rw [off b hb hb2] at q
        exact (I.hok b u q).stay (fun d v _ y => hk d v y) (fun d y => kp d _ y) fun d xs y => kp d _ y
variable {e e2 : Expr} {ta : TA} {p p2 cpos pos : Pos}
theorem pe_listZip (hc : X.calm = true) (ha : PA X [e, e2] ta) (hg : Gl X "list") (hm : X.mg "list" = none) (hg2 : Gl X "zip") (hm2 : X.mg "zip" = none)
    (hs : starEach [e, e2] X.env = (false, eval e X.env) :: starEach [e2] X.env := by rfl) (hpl : (backTo cpos (starEach [e2] X.env)).any (·.1) = false := by rfl)
    (hs1 : starEach [.Call (.Name "zip" p2) [e, e2] [] cpos] X.env = (false, eval (.Call (.Name "zip" p2) [e, e2] [] cpos) X.env) :: starEach [] X.env := by rfl) :
    PE X (.Call (.Name "list" p) [.Call (.Name "zip" p2) [e, e2] [] cpos] [] pos) (tListZip X.K ta) := by
  refine ⟨fun pins s σ H Q I hq => ?_⟩
  refine wpAny_Call_Name_kw (ld_blt I hg hm (by decide +kernel : bootBuiltins "list" = some (.type "list")) ?_)
  refine PyProof.Rows.callWith_type1 ?_ hs1 rfl
  rw [hs1]
  show wpAny _ _ (spliced ((false, eval (.Call (.Name "zip" p2) [e, e2] [] cpos) X.env) :: backTo pos (starEach [] X.env))) _ _ s
  refine Calls.spliced_cons ?_
  refine wpAny_Call_Name_kw (ld_blt I hg2 hm2 PyProof.Rows.boot_zip (PyProof.Rows.callWith_type1 (thn (ha.run cpos pins s σ H _ I hq) fun us s1 ⟨vs, H1, I1, r1, q1⟩ => ?_) hs hpl))
  obtain ⟨a, b, xs, ys, ex, hqx, hqy, q⟩ := q1
  subst ex
  cases r1 with
  | cons r rr =>
    cases rr with
    | cons r' rr =>
      cases rr
      cases r
      cases r'
      obtain ⟨its, rv, p1, z1⟩ := I1.list hqx
      obtain ⟨its2, rv2, pp2, z2⟩ := I1.list hqy
      have la : a < s1.heap.objs.size := p1.lt
      have lb : b < s1.heap.objs.size := pp2.lt
      refine call_zip_2 p1.isList pp2.isList fun h' hz hTI hTO h1 h2 hsz hk => ?_
      have I2 : Inv X pins σ H1 { s1 with heap := h' } := I1.kept (t' := s1.toks) hk
      have hzl : (xs.zip ys).length ≤ sizeLine := by rw [List.length_zip]; omega
      have hl1 : h'.IsList a its.toArray := p1.isList.at fun o e => hk _ o e
      have hl2 : h'.IsList b its2.toArray := pp2.isList.at fun o e => hk _ o e
      refine Calls.spliced_nil ?_
      refine z_list (s := { s1 with heap := h' }) (I1.ok.hd hc) (PySem.W.ktu_apart s1.heap.objs.size a b la lb) hz hTI hTO h1 h2 hl1 hl2 (by rw [List.length_zip] at hzl ⊢; rw [rv.length, rv2.length] at hzl; exact hzl) fun h'' tk acc c as hk2 hS hl hG hacc => ?_
      have hk3 : ∀ b o, s1.heap.get? b = some o → h''.get? b = some o := fun c o e' => by
        have hlt := Heap.lt_size e'
        exact hk2 c o (Nat.ne_of_lt (Nat.lt_of_lt_of_le hlt (Nat.le_add_right _ _))) (Nat.ne_of_lt (Nat.lt_of_lt_of_le hlt (Nat.le_add_right _ _))) (Nat.ne_of_lt hlt) (Nat.ne_of_lt (Nat.lt_of_lt_of_le hlt (Nat.le_add_right _ _))) (hk c o e')
      have hle : s1.heap.objs.size ≤ h'.objs.size := by omega
      obtain ⟨H', k1, k2, k4, k5, k6, J⟩ := pairs_laid (tk := tk) I1 hle rv rv2 hzl hk3 hS hl hG hacc
      refine ⟨.ref _, H', J, rfl, q H' _ as k1 k2 k4 ?_ k5 k6⟩
      rw [hl, List.length_zip, List.length_zip, rv.length, rv2.length]
end
end Zl
namespace BW
open PySem L2
section
variable {X : Cx} {G : Gam} {N : List Str} {sc : Scope} {e a b c : Expr} {p pa pb : Prop} {pos ppos p2 cpos : Pos}
theorem reps_pairs {K : PySem.W.Frag} {H : Hp} {t u : Type} [Enc t] [Enc u] [Flat t] [Flat u] : ∀ {xs : List t} {ys : List u} {vs ws : List V} {fp fq : List Addr} {ts : List Addr}, Reps K H fp vs (xs.map enc) → Reps K H fq ws (ys.map enc) → ts.length = (vs.zip ws).length → (∀ (j : Nat) (r : Addr), ts[j]? = some r → ∃ q, (vs.zip ws)[j]? = some q ∧ H r = some (.tup [q.1, q.2])) → Reps K H [] (ts.map V.ref) ((xs.zip ys).map enc)
  | [], ys, vs, ws, fp, fq, ts, h1, h2, hl, hp => by
    cases h1
    rw [List.zip_nil_left] at hl
    obtain rfl : ts = [] := List.length_eq_zero_iff.mp hl
    exact .nil
  | x :: xs, [], vs, ws, fp, fq, ts, h1, h2, hl, hp => by
    cases h2
    rw [List.zip_nil_right] at hl
    obtain rfl : ts = [] := List.length_eq_zero_iff.mp hl
    exact .nil
  | x :: xs, y :: ys, vs, ws, fp, fq, ts, h1, h2, hl, hp => by
    cases h1 with
    | cons r1 q1 =>
      cases h2 with
      | cons r2 q2 =>
        cases ts with
        | nil => simp at hl
        | cons t ts =>
          have z1 := Flat.flat x r1
          have z2 := Flat.flat y r2
          subst z1 z2
          obtain ⟨q, e1, e2⟩ := hp 0 t rfl
          rw [List.zip_cons_cons, List.getElem?_cons_zero] at e1
          obtain rfl := Option.some.inj e1
          have rt : Rep K H [] (.ref t) (enc (x, y)) := .tup (SqT.of e2) (.cons r1 (.cons r2 .nil))
          have rr := reps_pairs q1 q2 (ts := ts) (by simpa using hl) fun j r hj => by
            obtain ⟨q, f1, f2⟩ := hp (j + 1) r (by simpa using hj)
            exact ⟨q, by simpa using f1, f2⟩
          exact .cons rt rr
/-- list(zip(a, b)), items without lists -/
theorem ex_listZip (C : Cxf X N sc) (hg : sc.names.lookup ("list" : Str) = some .globalImplicit) (hm : X.mg "list" = none) (hg2 : sc.names.lookup ("zip" : Str) = some .globalImplicit) (hm2 : X.mg "zip" = none) {t u : Type} [Enc t] [Enc u] [Flat t] [Flat u] {xs : List t} {ys : List u} {kx ky : Kd}
    (ha : EX X G a pa xs kx) (hb : EX X G b pb ys ky) (c1 : Cmb pa pb p) (hs : starEach [a, b] X.env = (false, eval a X.env) :: starEach [b] X.env := by rfl) (hs2 : starEach [b] X.env = (false, eval b X.env) :: starEach [] X.env := by rfl) (hpl : (backTo cpos (starEach [b] X.env)).any (·.1) = false := by rfl)
    (hs1 : starEach [.Call (.Name "zip" p2) [a, b] [] cpos] X.env = (false, eval (.Call (.Name "zip" p2) [a, b] [] cpos) X.env) :: starEach [] X.env := by rfl) :
    EX X G (.Call (.Name "list" ppos) [.Call (.Name "zip" p2) [a, b] [] cpos] [] pos) p (xs.zip ys) .frs := by
  obtain ⟨ta, a1, a2⟩ := ha
  obtain ⟨tb, b1, b2⟩ := hb
  refine ⟨_, Zl.pe_listZip C.calm (pa_cons a1 (pa_cons b1 pa_nil hs2) hs) (C.gl hg) hm (C.gl hg2) hm2 hs hpl hs1, fun σ H F Q Rl hp k => ?_⟩
  obtain ⟨hpa, hpb⟩ := c1.out hp
  refine a2 σ H F _ Rl hpa fun v1 H1 f1 s1 r1 k1 => ?_
  refine b2 σ H1 F _ (Rl.same s1) hpb fun v2 H2 f2 s2 r2 k2 => ?_
  have r1' := r1.same s2
  obtain ⟨l, ws, fp', rfl, h1, rs, e⟩ := r1'.lst_inv'
  obtain ⟨m, us, gp', rfl, h2, qs, e'⟩ := r2.lst_inv'
  refine ⟨l, m, ws, us, rfl, SqL.of h1, SqL.of h2, fun H' p ts keep hpn hpt hlen hH hpairs => ?_⟩
  have sm : Same H2 H' := fun b o e => keep b o e
  have rr := reps_pairs (rs.same sm) (qs.same sm) hlen hpairs
  refine k _ H' [p] ((s1.trans s2).trans sm) (.lst hH rr) ⟨by simp, fun a ha => by rw [List.mem_singleton.mp ha]; exact s1.free (s2.free hpn)⟩
end
end BW

set_option Elab.async false
set_option linter.all false
set_option maxRecDepth 100000
set_option maxHeartbeats 4000000
/-! a <= b <= c < d .., of any length. -/
namespace BW
open PySem L2 PySem.Spec PyProof.Rows
/-- what is left of a chain behind a value -/
def PCh (X : Cx) (ops : List CmpOp) (rs : List Expr) (tl : V → L2.St → Hp → (Bool → Hp → Prop) → Prop) : Prop := ∀ (pos : Pos) (pins : List (Addr × PySem.Obj)) (s : Shared) (σ : L2.St) (H : Hp) (x : V) (v : Value) (Q : Bool → Hp → Prop), Inv X pins σ H s → RelV x v → tl x σ H Q →
  wpAny (model X.prog X.w) X.A (compareChain pos v ops (evalEach rs X.env)) (fun c s' => ∃ k H', Inv X pins σ H' s' ∧ RelV (.bl k) c ∧ Q k H') X.xe s ∧
  wpAny (model X.prog X.w) X.A (testChain pos v ops (evalEach rs X.env)) (fun k s' => ∃ H', Inv X pins σ H' s' ∧ Q k H') X.xe s
theorem pch_last {X : Cx} {op : CmpOp} {r : R2} {e : Expr} {te : TE} (ho : OpR X (compareOp op) r) (he : PE X e te) : PCh X [op] [e] (fun x σ H Q => te σ H fun y H1 => r x y H1 fun z H2 => ∃ k, z = .bl k ∧ Q k H2) := by
  intro pos pins s σ H x v Q I rx h
  refine ⟨?_, ?_⟩
  · refine chain_last (thn (he.run pins s σ H _ I h) fun u s1 ⟨y, H1, I1, r1, q1⟩ => ?_)
    refine thn (ho pins s1 σ H1 x y v u _ I1 rx r1 q1) fun c s2 ⟨z, H2, I2, r2, k, e1, q2⟩ => ?_
    subst e1
    exact ⟨k, H2, I2, r2, q2⟩
  · refine test_last (thn (he.run pins s σ H _ I h) fun u s1 ⟨y, H1, I1, r1, q1⟩ => ?_)
    refine thn (ho pins s1 σ H1 x y v u _ I1 rx r1 q1) fun c s2 ⟨z, H2, I2, r2, k, e1, q2⟩ => ?_
    subst e1
    cases r2
    exact wpAny_truthy_bool ⟨H2, I2, q2⟩
theorem pch_link {X : Cx} {op op' : CmpOp} {ops : List CmpOp} {r : R2} {e e' : Expr} {es : List Expr} {te : TE} {tl : V → L2.St → Hp → (Bool → Hp → Prop) → Prop} (ho : OpR X (compareOp op) r) (he : PE X e te) (ht : PCh X (op' :: ops) (e' :: es) tl) :
    PCh X (op :: op' :: ops) (e :: e' :: es) (fun x σ H Q => te σ H fun y H1 => r x y H1 fun z H2 => ∃ k, z = .bl k ∧ if k = true then tl y σ H2 Q else Q false H2) := by
  intro pos pins s σ H x v Q I rx h
  refine ⟨?_, ?_⟩
  · refine chain_link (thn (he.run pins s σ H _ I h) fun u s1 ⟨y, H1, I1, r1, q1⟩ => ?_)
    refine thn (ho pins s1 σ H1 x y v u _ I1 rx r1 q1) fun c s2 ⟨z, H2, I2, r2, k, e1, q2⟩ => ?_
    subst e1
    cases r2
    refine wpAny_truthy_bool ?_
    cases k with
    | false => exact ite_ff ⟨false, H2, I2, rfl, q2⟩
    | true => exact ite_tt (ht pos pins s2 σ H2 y u Q I2 r1 q2).1
  · refine test_link (thn (he.run pins s σ H _ I h) fun u s1 ⟨y, H1, I1, r1, q1⟩ => ?_)
    refine thn (ho pins s1 σ H1 x y v u _ I1 rx r1 q1) fun c s2 ⟨z, H2, I2, r2, k, e1, q2⟩ => ?_
    subst e1
    cases r2
    refine wpAny_truthy_bool ?_
    cases k with
    | false => exact ite_ff ⟨H2, I2, q2⟩
    | true => exact ite_tt (ht pos pins s2 σ H2 y u Q I2 r1 q2).2
/-- the same over data: whole numbers -/
def CHT (X : Cx) (G : Gam) (x : Int) (ops : List CmpOp) (rs : List Expr) (p : Prop) (b : Bool) : Prop := ∃ tl, PCh X ops rs tl ∧ ∀ σ H F (Q : Bool → Hp → Prop), Rel X.K G σ H F → p → (∀ H', Same H H' → Q b H') → tl (.int x) σ H Q
section
variable {X : Cx} {G : Gam} {a b : Expr} {p pa pb pt : Prop} {pos : Pos} {op op' o1 o2 : CmpOp} {ops : List CmpOp} {g : Int → Int → Bool} {x y : Int} {kx ky : Kd} {e' r1 r2 : Expr} {es rs : List Expr} {bt : Bool}
theorem cht_last (ho : OpR X (compareOp op) (rI0 fun i j => .bl (g i j))) (hb : EX X G b pb y ky) : CHT X G x [op] [b] pb (g x y) := by
  obtain ⟨tb, b1, b2⟩ := hb
  refine ⟨_, pch_last ho b1, fun σ H F Q R hp k => ?_⟩
  refine b2 σ H F _ R hp fun w H1 fp s1 r1 _ => ?_
  exact ⟨x, y, rfl, r1.int_inv.1, g x y, rfl, k H1 s1⟩
theorem cht_link (ho : OpR X (compareOp op) (rI0 fun i j => .bl (g i j))) (hb : EX X G b pb y ky) (ht : CHT X G y (op' :: ops) (e' :: es) pt bt) (c : CmbIf (g x y) pb pt p) : CHT X G x (op :: op' :: ops) (b :: e' :: es) p (g x y && bt) := by
  obtain ⟨tb, b1, b2⟩ := hb
  obtain ⟨tl, t1, t2⟩ := ht
  refine ⟨_, pch_link ho b1 t1, fun σ H F Q R hp k => ?_⟩
  obtain ⟨hpb, hpt⟩ := c.out hp
  refine b2 σ H F _ R hpb fun w H1 fp s1 r1 _ => ?_
  obtain ⟨rfl, _⟩ := r1.int_inv
  refine ⟨x, y, rfl, rfl, g x y, rfl, ?_⟩
  cases hg : g x y with
  | false => rw [hg] at k; exact iteF (k H1 s1)
  | true =>
    rw [hg] at k hpt
    exact iteT (t2 σ H1 F Q (R.same s1) (hpt rfl) fun H2 s2 => k H2 (s1.trans s2))
theorem cm_chainN (ha : EX X G a pa x kx) (ht : CHT X G x (o1 :: o2 :: ops) (r1 :: r2 :: rs) pt bt) (c : Cmb pa pt p) (hm : lastMarks (o1 :: o2 :: ops) (r1 :: r2 :: rs) = false := by rfl) : CMP X G (.Compare a (o1 :: o2 :: ops) (r1 :: r2 :: rs) pos) p bt := by
  obtain ⟨ta, a1, a2⟩ := ha
  obtain ⟨tl, t1, t2⟩ := ht
  refine ⟨fun σ H Q => ta σ H fun v H1 => tl v σ H1 fun k H2 => Q (.bl k) H2, ⟨fun pins s σ H Q I h => ?_⟩, ⟨fun pins s σ H Q I h => ?_⟩, fun σ H F Q R hp k => ?_⟩
  · refine Compare_chain (thn (a1.run pins s σ H _ I h) fun v s1 ⟨x', H1, I1, r1', q1⟩ => ?_) hm
    refine thn (t1 pos pins s1 σ H1 x' v _ I1 r1' q1).1 fun c s2 ⟨k, H2, I2, r2', q2⟩ => ?_
    exact ⟨.bl k, H2, I2, r2', q2⟩
  · refine isTrue_chain (thn (a1.run pins s σ H _ I h) fun v s1 ⟨x', H1, I1, r1', q1⟩ => ?_) hm
    refine thn (t1 pos pins s1 σ H1 x' v _ I1 r1' q1).2 fun k s2 ⟨H2, I2, k', e, q2⟩ => ?_
    cases e
    exact ⟨H2, I2, q2⟩
  · obtain ⟨hpa, hpt⟩ := c.out hp
    refine a2 σ H F _ R hpa fun v H1 fp s1 r1' _ => ?_
    obtain ⟨rfl, _⟩ := r1'.int_inv
    exact t2 σ H1 F _ (R.same s1) hpt fun H2 s2 => k H2 (s1.trans s2)
end
end BW

set_option Elab.async false
set_option linter.all false
set_option maxRecDepth 100000
set_option maxHeartbeats 4000000
/-! y = f(y, ..): a def that takes its first argument over and may hand it back. -/
namespace BW
open PySem L2
/-- what a def gives that takes its first argument over -/
def spO (K : PySem.W.Frag) {A R : Type} [Enc R] (din : A → D) (encs : A → List D) (pre : A → Prop) (val : A → R) : Sp := fun vs H Q _ =>
  ∃ (x : A) (v0 : V) (vs' : List V) (fs fp : List Addr), vs = v0 :: vs' ∧ Rep K H fs v0 (din x) ∧ fs.Nodup ∧ Reps K H fp vs' (encs x) ∧ (∀ b ∈ fs, b ∉ fp) ∧ pre x ∧
    ∀ v H' fr, Rep K H' fr v (enc (val x)) → fr.Nodup → (∀ b ∈ fr, b ∈ fs ∨ H b = none) → Frm (· ∈ fs) H (fun _ => False) H' → Q v H'
section
variable {P : Program} {w : World} {K : PySem.W.Frag} {mg : Str → Option Value} {base : Heap} {x qual : Str} {params : Arguments} {body : List Stmt} {sc : Scope} {f : Addr} {fd : FuncData} {N ps : List Str}
theorem relO {H : Hp} {v0 : V} {vs : List V} {d0 : D} {ds : List D} {fs fp : List Addr} (N : List Str) (r0 : Rep K H fs v0 d0) (n0 : fs.Nodup) (r : Reps K H fp vs ds) (dj : ∀ b ∈ fs, b ∉ fp) :
    ∃ F, Rel K (gM N.length d0 ds) (start N (v0 :: vs)) H F ∧ F 0 = fs ∧ ∀ b, InO (gM N.length d0 ds) F b ↔ b ∈ fs := by
  have hl := r.length
  have key : ∀ i : Nat, ∃ fpi : List Addr, (∀ b ∈ fpi, b ∈ fp) ∧ ∀ d, ds[i]? = some d → ∃ v, vs[i]? = some v ∧ Rep K H fpi v d := fun i => by
    cases e : ds[i]? with
    | none => exact ⟨[], (fun _ h => nomatch h), fun d h => by cases h⟩
    | some d =>
      obtain ⟨v, fp', e1, r1, s1, _⟩ := r.get e
      exact ⟨fp', s1, fun d' h => by cases h; exact ⟨v, e1, r1⟩⟩
  let F : Nat → List Addr := fun i => match i with
    | 0 => fs
    | i + 1 => Classical.choose (key i)
  have hF : ∀ i, (∀ b ∈ F (i + 1), b ∈ fp) ∧ ∀ d, ds[i]? = some d → ∃ v, vs[i]? = some v ∧ Rep K H (F (i + 1)) v d := fun i => Classical.choose_spec (key i)
  have own : ∀ (i : Nat) d, (gM N.length d0 ds)[i]? = some (.val true d) → i = 0 ∧ d = d0 := fun i d e => by
    cases i with
    | zero =>
      have : Slot.val true d0 = .val true d := Option.some.inj e
      injection this with _ h2
      exact ⟨rfl, h2.symm⟩
    | succ i =>
      rcases gM_at e with ⟨_, _, z⟩ | z <;> cases z
  refine ⟨F, ⟨?_, fun i m d e => ?_, fun i d e => ?_, fun i j d m d' n e e' => ?_, fun i b e => ?_⟩, rfl, fun b => ⟨fun ⟨i, d, e, hb⟩ => ?_, fun hb => ⟨0, d0, rfl, hb⟩⟩⟩
  · unfold gM L2.start
    simp [hl]
  · cases i with
    | zero =>
      have : Slot.val true d0 = .val m d := Option.some.inj e
      injection this with h1 h2
      subst h1 h2
      exact ⟨v0, by unfold L2.start; rfl, r0⟩
    | succ i =>
      rcases gM_at e with ⟨u, q, z⟩ | z
      · injection z with z1 z2
        subst z2
        obtain ⟨v, hv, rv⟩ := (hF i).2 d q
        refine ⟨v, ?_, rv⟩
        have hi : i < vs.length := (List.getElem?_eq_some_iff.mp hv).1
        unfold L2.start
        rw [List.map_cons, List.cons_append, List.getElem?_cons_succ, List.getElem?_append_left (by rw [List.length_map]; exact hi), List.getElem?_map, hv]
        rfl
      · cases z
  · obtain ⟨rfl, rfl⟩ := own i d e
    exact n0
  · obtain ⟨rfl, rfl⟩ := own i d e
    cases j with
    | zero => exact absurd rfl n
    | succ j =>
      intro b hb z
      exact dj b hb ((hF j).1 b z)
  · cases i with
    | zero => cases e
    | succ i => rcases gM_at e with ⟨_, _, z⟩ | z <;> cases z
  · obtain ⟨rfl, rfl⟩ := own i d e
    exact hb
/-- a def that takes its first argument over -/
theorem fn_okO {k : Nat} {A R : Type} [Enc R] {din : A → D} {encs : A → List D} {pre : A → Prop} {val : A → R} (F : FunD K x qual params body sc [] [] f fd) (S' : FnScope N ps sc) (hlen : ∀ y, (encs y).length + 1 = ps.length)
    (hbody : ∀ (cdv : Value) (A' : Around) (outer : List PySem.Env) (s : Shared) (H : Hp) (E : XK), Room k (A'.deeper (PyProof.Rows.envOfC qual sc s.heap.objs.size f cdv)) → ∀ y : A, SX (cxOf (L2.CX P w) P w K mg base N qual sc f cdv A' outer s H E) (WO E) (gM N.length (din y) (encs y)) body (pre y) noG noG (.ret (val y) : Out Empty Empty R)) :
    FnOk P w K mg base (L2.CX P w) (k + 1) f fd ps (spO K din encs pre val) := by
  refine F.ok S' (fun vs H Q E ⟨y, a, vs', fs, fp, e, _, _, r, _⟩ => by rw [e, List.length_cons, r.length, hlen]) fun cdv A' outer s H vs Q E hr ⟨y, a, vs', fs, fp, e, r0, n0, r, dj, hp, hk⟩ => ?_
  subst e
  obtain ⟨ts, h1, h2⟩ := hbody cdv A' outer s H E hr y
  obtain ⟨F0, R0, e0, io⟩ := relO N r0 n0 r dj
  refine ⟨ts, h1, h2 _ H F0 _ R0 hp ?_⟩
  exact fun v H' fr r1 m1 k1 f2 => hk v H' fr r1 m1 (fun b hb => (k1 b hb).imp (io b).mp id) fun b o e n => f2 b o e fun z => n ((io b).mp z)
end
section
variable {X : Cx} {G : Gam} {N : List Str} {sc : Scope} {e a b c : Expr} {es : List Expr} {p pa pb pr q : Prop} {pos ppos p2 py cpos : Pos}
variable {W : WX} {S B R : Type} [Ret R] {g : S → Gam} {gb : B → Gam} {rest : List Stmt}
theorem sx_callO {A U : Type} [Enc U] {din : A → D} {encs : A → List D} {pre : A → Prop} {val : A → U} {k : Nat} {ps : List Str} {x y : Str} {pR : U → Prop} {oR : U → Out S B R} {p1 : Prop} (C : Cxf X N sc) (i : Nat) (V : Vr N sc i y) (V' : Vs X N sc i y) (hC : Cx0 X N sc)
    (F : Cal X.prog X.w X.K X.mg X.base x k ps (spO X.K din encs pre val)) (hr : Room k X.A) (hg : sc.names.lookup x = some .globalImplicit) (a : A) (ha : AX X G es pa (encs a) .shr)
    (hR : ∀ z : U, SX X W (G.set i (.val true (enc z))) rest (pR z) g gb (oR z)) (c1 : Cmb pa (pre a) p1) (c2 : Cmb p1 (lt (val a) pR) p) (h : G[i]? = some (.val true (din a)) := by rfl) (hdb : (x == ("__debug__" : Str)) = false := by decide)
    (he : starEach (.Name y p2 :: es) X.env = (false, eval (.Name y p2) X.env) :: starEach es X.env := by rfl) (hpl : (backTo cpos (starEach es X.env)).any (·.1) = false := by rfl)
    (hs : swapsWith (.Call (.Name x ppos) (.Name y p2 :: es) [] cpos) (some (.Name y py)) pos.line X.env = pure false := by rfl) :
    SX X W G (.Assign [.Name y py] (.Call (.Name x ppos) (.Name y p2 :: es) [] cpos) pos :: rest) p g gb (lt (val a) oR) := by
  obtain ⟨ta, a1, a2⟩ := ha
  obtain ⟨f, fd, hm, hk, hb, F⟩ := F.ex
  obtain ⟨ts, r1, r2⟩ := hR (val a)
  have hiL : i < G.length := (List.getElem?_eq_some_iff.mp h).1
  refine ⟨_, pss_cons (ps_set (by rw [hC.hN]; exact hC.nd) (by rw [hC.hN]; exact V'.ix) (by rw [hC.hs]; exact V'.loc) (pe_call F hr (C.gl hg) hm hk hb .nil passL (pa_cons (pe_slot C V) a1 he) hdb he hpl) hs (by rw [hC.hs]; exact V'.fn)) r1, fun σ H Fs D Rl hp kk => ?_⟩
  obtain ⟨hp1, hpR⟩ := c2.out hp
  obtain ⟨hpa, hpx⟩ := c1.out hp1
  obtain ⟨v0, e0, r0⟩ := Rl.rep i _ _ h
  refine ⟨v0, e0, a2 σ H Fs _ Rl hpa fun vs H1 fp s1 rv kd => ?_⟩
  show spO X.K din encs pre val (v0 :: vs ++ []) H1 _ _
  rw [List.append_nil]
  refine ⟨a, v0, vs, Fs i, fp, rfl, r0.same s1, Rl.nd i _ h, rv, fun b hb z => Rl.shrN kd b z ⟨i, _, h, hb⟩, hpx, fun v H' fr q1 n1 k1 f2 => ?_⟩
  have hfr : Frm (· ∈ Fs i) H (fun _ => False) H' := fun b o e n => f2 b o (s1 b o e) n
  obtain ⟨t1, t2⟩ := Rl.dropMut h hfr
  have hne : ∀ (n : Nat) mm d', (G.set i .no)[n]? = some (.val mm d') → n ≠ i ∧ G[n]? = some (.val mm d') := fun n mm d' e' => by
    by_cases hj : n = i
    · subst hj
      have q := set_eq e'
      cases q
    · exact ⟨hj, set_ne hj e'⟩
  have t3 := t1.putD (i := i) q1 (by simpa using hiL) n1 fun n mm d' e' b hb z => by
    obtain ⟨hj, e1⟩ := hne n mm d' e'
    rcases k1 b hb with y | y
    · exact Rl.dj i n _ _ _ (Ne.symm hj) h e1 b y z
    · obtain ⟨u, _, ru⟩ := Rl.rep n _ _ e1
      exact ru.there z (s1.free y)
  rw [List.set_set] at t3
  refine r2 _ _ _ D t3 hpR (kk.of fun b o ho n => ?_)
  refine ⟨(t2 b o ho n).1, ?_⟩
  rintro ⟨j, dj, ej, hj⟩
  by_cases hji : j = i
  · subst hji
    rw [updF_same] at hj
    rcases k1 b hj with y | y
    · exact n ⟨j, _, h, y⟩
    · have := s1.free y
      rw [ho] at this
      cases this
  · rw [updF_ne hji] at hj
    exact n ⟨j, dj, set_ne hji ej, hj⟩
theorem sx_callOV {A U : Type} [Enc U] {din : A → D} {encs : A → List D} {pre : A → Prop} {val : A → U} {k : Nat} {ps : List Str} {x y : Str} {pR : U → Prop} {rR : U → R} {p1 : Prop} (C : Cxf X N sc) (i : Nat) (V : Vr N sc i y) (V' : Vs X N sc i y) (hC : Cx0 X N sc)
    (F : Cal X.prog X.w X.K X.mg X.base x k ps (spO X.K din encs pre val)) (hr : Room k X.A) (hg : sc.names.lookup x = some .globalImplicit) (a : A) (ha : AX X G es pa (encs a) .shr)
    (hR : ∀ z : U, SX X W (G.set i (.val true (enc z))) rest (pR z) g gb (.ret (rR z) : Out S B R)) (c1 : Cmb pa (pre a) p1) (c2 : Cmb p1 (lt (val a) pR) p) (h : G[i]? = some (.val true (din a)) := by rfl) (hdb : (x == ("__debug__" : Str)) = false := by decide)
    (he : starEach (.Name y p2 :: es) X.env = (false, eval (.Name y p2) X.env) :: starEach es X.env := by rfl) (hpl : (backTo cpos (starEach es X.env)).any (·.1) = false := by rfl)
    (hs : swapsWith (.Call (.Name x ppos) (.Name y p2 :: es) [] cpos) (some (.Name y py)) pos.line X.env = pure false := by rfl) :
    SX X W G (.Assign [.Name y py] (.Call (.Name x ppos) (.Name y p2 :: es) [] cpos) pos :: rest) p g gb (.ret (lt (val a) rR) : Out S B R) :=
  sx_callO C i V V' hC F hr hg a ha hR c1 c2 h hdb he hpl hs
theorem sx_callOF {A U : Type} [Enc U] {din : A → D} {encs : A → List D} {pre : A → Prop} {val : A → U} {k : Nat} {ps : List Str} {x y : Str} {pR : U → Prop} {rR : U → S} {p1 : Prop} (C : Cxf X N sc) (i : Nat) (V : Vr N sc i y) (V' : Vs X N sc i y) (hC : Cx0 X N sc)
    (F : Cal X.prog X.w X.K X.mg X.base x k ps (spO X.K din encs pre val)) (hr : Room k X.A) (hg : sc.names.lookup x = some .globalImplicit) (a : A) (ha : AX X G es pa (encs a) .shr)
    (hR : ∀ z : U, SX X W (G.set i (.val true (enc z))) rest (pR z) g gb (.fall (rR z) : Out S B R)) (c1 : Cmb pa (pre a) p1) (c2 : Cmb p1 (lt (val a) pR) p) (h : G[i]? = some (.val true (din a)) := by rfl) (hdb : (x == ("__debug__" : Str)) = false := by decide)
    (he : starEach (.Name y p2 :: es) X.env = (false, eval (.Name y p2) X.env) :: starEach es X.env := by rfl) (hpl : (backTo cpos (starEach es X.env)).any (·.1) = false := by rfl)
    (hs : swapsWith (.Call (.Name x ppos) (.Name y p2 :: es) [] cpos) (some (.Name y py)) pos.line X.env = pure false := by rfl) :
    SX X W G (.Assign [.Name y py] (.Call (.Name x ppos) (.Name y p2 :: es) [] cpos) pos :: rest) p g gb (.fall (lt (val a) rR) : Out S B R) :=
  sx_callO C i V V' hC F hr hg a ha hR c1 c2 h hdb he hpl hs
end
section
variable {P : Program} {w : World} {K : PySem.W.Frag} {mg : Str → Option Value} {base : Heap} {x qual : Str} {params : Arguments} {body : List Stmt} {sc : Scope} {f : Addr} {fd : FuncData} {ps : List Str}
theorem spO_imp {A R : Type} [Enc R] {din : A → D} {encs : A → List D} {pre pre' : A → Prop} {val val' : A → R} (h : ∀ a, pre' a → pre a ∧ val a = val' a) : ∀ vs H Q E, spO K din encs pre' val' vs H Q E → spO K din encs pre val vs H Q E := by
  rintro vs H Q E ⟨y, a, vs', fs, fp, e, r0, n0, r, dj, hp, k⟩
  obtain ⟨h1, h2⟩ := h y hp
  exact ⟨y, a, vs', fs, fp, e, r0, n0, r, dj, h1, by rw [h2]; exact k⟩
theorem calO_mk {k : Nat} {A R : Type} [Enc R] {din : A → D} {encs : A → List D} {pre pre' : A → Prop} {val val' : A → R} (F : FunD K x qual params body sc [] [] f fd) (hm : mg x = some (.ref f)) (hb : Binds K fd ps [])
    (h : FnOk P w K mg base (L2.CX P w) k f fd ps (spO K din encs pre val)) (hi : ∀ a, pre' a → pre a ∧ val a = val' a) : Cal P w K mg base x k ps (spO K din encs pre' val') :=
  ⟨f, fd, hm, F.kp, hb, h.imp (spO_imp hi)⟩
end
end BW

set_option Elab.async false
set_option linter.all false
set_option maxRecDepth 100000
set_option maxHeartbeats 4000000
/-! Expressions that write an object: a def that writes its first argument, called; comprehensions over such. -/
namespace BW
open PySem L2
section
variable {X : Cx} {G : Gam} {N : List Str} {sc : Scope} {e a b c : Expr} {es : List Expr} {p pa pb pr q : Prop} {pos ppos apos cpos npos lpos : Pos}
variable {cls : Str} {ks : List Str} {ds : List D} {w : Option Addr}
/-- an expression that writes the object of a slot; its value is apart from all that is owned -/
def EW (X : Cx) (G : Gam) (e : Expr) (p : Prop) (i : Nat) (d' : D) {U : Type} [Enc U] (u : U) : Prop :=
  ∃ te, PE X e te ∧ ∀ σ H F (Q : VK), Rel X.K G σ H F → p → (∀ v H' F' fr, Rel X.K (G.set i (.val true d')) σ H' F' → Frm (InO G F) H (InO (G.set i (.val true d')) F') H' → Rep X.K H' fr v (enc u) → fr.Nodup → (∀ b ∈ fr, ¬ InO (G.set i (.val true d')) F' b) → (∀ b ∈ fr, InO G F b ∨ H b = none) → Q v H') → te σ H Q
/-- a test that writes -/
def TW (X : Cx) (G : Gam) (e : Expr) (p : Prop) (i : Nat) (d' : D) (z : Bool) : Prop :=
  ∃ tt, PT X e tt ∧ ∀ σ H F (Q : Bool → Hp → Prop), Rel X.K G σ H F → p → (∀ H' F', Rel X.K (G.set i (.val true d')) σ H' F' → Frm (InO G F) H (InO (G.set i (.val true d')) F') H' → Q z H') → tt σ H Q
theorem ew_call {A U : Type} [Enc U] {din : A → D} {encs : A → List D} {pre : A → Prop} {dout : A → D} {val : A → U} {k : Nat} {ps : List Str} {x y : Str} {p2 : Pos} (C : Cxf X N sc) (i : Nat) (V : Vr N sc i y)
    (F : Cal X.prog X.w X.K X.mg X.base x k ps (spM X.K din encs pre dout val)) (hr : Room k X.A) (hg : sc.names.lookup x = some .globalImplicit) (y0 : A) (ha : AX X G es pa (encs y0) .shr) (c1 : Cmb pa (pre y0) p)
    (h : G[i]? = some (.val true (.obj w cls ks ds)) := by rfl) (hd : din y0 = .obj none cls ks ds := by rfl) (hdb : (x == ("__debug__" : Str)) = false := by decide)
    (he : starEach (.Name y p2 :: es) X.env = (false, eval (.Name y p2) X.env) :: starEach es X.env := by rfl) (hpl : (backTo cpos (starEach es X.env)).any (·.1) = false := by rfl) :
    EW X G (.Call (.Name x ppos) (.Name y p2 :: es) [] cpos) p i (pinD w (dout y0)) (val y0) := by
  obtain ⟨ta, a1, a2⟩ := ha
  obtain ⟨f, fd, hm, hk, hb, F⟩ := F.ex
  refine ⟨_, pe_call F hr (C.gl hg) hm hk hb .nil passL (pa_cons (pe_slot C.toCx0 V) a1 he) hdb he hpl, fun σ H Fs Q Rl hp kk => ?_⟩
  obtain ⟨hpa, hpx⟩ := c1.out hp
  obtain ⟨v0, e0, r0⟩ := Rl.rep i _ _ h
  obtain ⟨a0, dx, vs0, fp0, rfl, hw, hH, hl', rs, eF⟩ := r0.obj_inv
  refine ⟨_, e0, a2 σ H Fs _ Rl hpa fun vs H1 fp s1 rv kd => ?_⟩
  show spM X.K din encs pre dout val (.ref a0 :: vs ++ []) H1 _ _
  rw [List.append_nil]
  exact meth_post Rl h e0 hd s1 rv kd hpx fun v H' F' fr q1 q2 q3 q4 q5 q6 => kk v H' F' fr q1 q2 q3 q4 q5 fun b hb => (q6 b hb).imp (fun z => ⟨i, _, h, z⟩) id
theorem ew_lcM {S0 t U : Type} [Enc t] [Flat t] [Enc U] [Flat U] {xs : List t} {Ds : S0 → D} {f : S0 → t → S0 × U} {pe : S0 → t → Prop} {pI p1 : Prop} {elt tg iter : Expr} {scope : Scope} {own : List (Str × Nat)} {jt : Nat} (s0 : S0)
    (C : Cxf X N sc) (i : Nat) (hG : G.length = N.length) (hI : IX X G tg iter pI xs) (ok : BlkOk N sc scope own)
    (hjt : jt ∈ own.map (·.2)) (hno : ∀ k ∈ own.map (·.2), G[k]? = some .no) (hij : i ∉ own.map (·.2))
    (hT : ∀ (s : Shared) (H : Hp) (D : Addr) (cl : List (Str × Addr)) (fp : List Addr), TGT (X.blk s H scope (compEnvC scope cl D X.env) fp) N.length tg [jt] (fun G (x : t) => G.set jt (.val false (enc x))))
    (he : ∀ (s : Shared) (H : Hp) (D : Addr) (cl : List (Str × Addr)) (fp : List Addr) (st : S0) (x : t), MX (X.blk s H scope (compEnvC scope cl D X.env) fp) ((G.set i (.val true (Ds st))).set jt (.val false (enc x))) elt (pe st x) i (Ds (f st x).1) (f st x).2)
    (c1 : Cmb pI (foldP (fun (q : S0 × List U) x => pe q.1 x) (accS f) (s0, []) xs) p1) (c2 : Cmb p1 (LenOk xs.length) p)
    (hi : G[i]? = some (.val true (Ds s0)) := by rfl) (hs : ∀ x, foldedSetIterable iter X.env x = pure x := by intro _; rfl) :
    EW X G (.ListComp elt [⟨tg, iter, [], 0⟩] scope lpos) p i (Ds (mapAcc f s0 xs).1) (mapAcc f s0 xs).2 := by
  obtain ⟨wi, hI1, hI2⟩ := hI
  refine ⟨_, pe_lc (wi := wi) (g := gC X.K N.length [jt] (fun G (x : t) => G.set jt (.val false (enc x)))) (tt := tYes) (te := teM X.K (fun z : S0 × t => (G.set i (.val true (Ds z.1))).set jt (.val false (enc z.2))) (fun z => pe z.1 z.2) i (fun z => Ds (f z.1 z.2).1) (fun z => (f z.1 z.2).2)) C.calm (by rw [C.hN]; exact C.nd) hI1 (by rw [C.hN, C.hs]; exact ok) (fun s H D cl fp => (hT s H D cl fp).canon) (fun s H D cl fp => pts_nil) (fun s H D cl fp => MX.canon fun z => he s H D cl fp z.1 z.2) hs, fun σ H F KQ Rl hp kQ => ?_⟩
  obtain ⟨hp1, hlen⟩ := c2.out hp
  obtain ⟨hpI, hF⟩ := c1.out hp1
  have hwG : ∀ d, wipeG (G.set i (.val true d)) (own.map (·.2)) = G.set i (.val true d) := fun d => by
    have : ∀ vs : List Nat, (∀ k ∈ vs, G[k]? = some .no ∧ k ≠ i) → wipeG (G.set i (.val true d)) vs = G.set i (.val true d) := by
      intro vs
      induction vs with
      | nil => exact fun _ => rfl
      | cons v vs ih =>
        intro h
        unfold wipeG
        rw [ih fun k hk => h k (List.mem_cons_of_mem _ hk)]
        obtain ⟨h1, h2⟩ := h v List.mem_cons_self
        refine List.ext_getElem? fun n => ?_
        by_cases hn : n = v
        · subst hn
          have hlt : n < (G.set i (.val true d)).length := by rw [List.length_set]; exact (List.getElem?_eq_some_iff.mp h1).1
          rw [List.getElem?_set_self hlt, List.getElem?_set_ne (Ne.symm h2), h1]
        · rw [List.getElem?_set_ne (Ne.symm hn)]
    exact this _ fun k hk => ⟨hno k hk, fun e => hij (e ▸ hk)⟩
  have hijt : jt ≠ i := fun e => hij (e ▸ hjt)
  have hil : i < G.length := (List.getElem?_eq_some_iff.mp hi).1
  refine hI2 σ H F _ Rl hpI fun J H1 nodes Gd s1 n1 n2 ps g1 w => ?_
  intro A hA
  have hnA : H A = none := s1.free hA
  let Q : Nat → S0 × List U := fun n => (xs.take n).foldl (accS f) (s0, [])
  have nO : ∀ a ∈ nodes, ¬ InO G F a := Rl.shrN n1
  refine lc_it w (fun n Hn => ∃ acc Fn, Hn A = some (.lst acc) ∧ Reps X.K Hn [] acc ((Q n).2.map enc) ∧ acc.length ≤ n ∧ Rel X.K (G.set i (.val true (Ds (Q n).1))) σ Hn Fn ∧ Frm (InO G F) H (InO (G.set i (.val true (Ds (Q n).1))) Fn) Hn ∧ (∀ (m : Nat) mm d, (G.set i (.val true (Ds (Q n).1)))[m]? = some (.val mm d) → A ∉ Fn m) ∧ (∀ a ∈ nodes, ¬ InO (G.set i (.val true (Ds (Q n).1))) Fn a) ∧ Gd Hn) ?_ ?_ ?_ ?_
  · have hGi : G.set i (.val true (Ds s0)) = G := by
      refine List.ext_getElem? fun n => ?_
      by_cases hn : n = i
      · subst hn
        rw [List.getElem?_set_self hil, hi]
      · rw [List.getElem?_set_ne (Ne.symm hn)]
    have s2 : Same H (upd H1 A (.lst [])) := s1.trans (Same.upd hA)
    have hGi' : G.set i (.val true (Ds (Q 0).1)) = G := hGi
    refine ⟨[], F, upd_same, .nil, Nat.le_refl _, by rw [hGi']; exact Rl.same s2, by rw [hGi']; exact Rl.frm s2, fun m mm d e z => ?_, by rw [hGi']; exact nO, ?_⟩
    · rw [hGi'] at e
      obtain ⟨_, _, r⟩ := Rl.rep m mm d e
      exact r.there z hnA
    · exact (ps _ _ (fun _ => False) _ (Same.frm (Same.upd hA)) (fun _ z => z.elim) (fun _ _ z => z) g1).1
  · exact fun n Hn _ ⟨_, _, _, _, _, _, _, _, _, g⟩ => g
  · rintro n x Hi Hi' hn ⟨acc, Fn, hAc, rA, lA, Rn, fn, nA, nn, gA⟩ ⟨sy, fpx, y', ey, ry, ny⟩
    have gA' : Gd Hi' := (ps _ _ (fun _ => False) _ (Same.frm sy) (fun _ z => z.elim) (fun _ _ z => z) gA).1
    have hpe := foldP_at hF ey
    have zf := Flat.flat y' ry
    subst zf
    have Rn' := (Rn.same sy).wipe (own.map (·.2))
    rw [hwG] at Rn'
    have hAc' : Hi' A = some (.lst acc) := sy _ _ hAc
    refine ⟨G.set i (.val true (Ds (Q n).1)), y', Fn, [], by rw [List.length_set, hG], Rn', ry, (fun _ h => nomatch h), fun σ2 F2 l2 R2 f2 m2 i2 o2 j2 e2 => ⟨?_, ?_⟩⟩
    · rw [wipe_ext (b := L2.wipe σ (own.map (·.2))) e2 (fun k hk => j2 k fun z => hk (by rw [List.mem_singleton.mp z]; exact hjt)), wipe_wipe]
    · unfold tYes
      dsimp only
      rw [if_pos rfl]
      refine ⟨((Q n).1, y'), F2, R2, hpe, fun v H4 fs' R4 f4 r4 => ?_⟩
      have eQ : Q (n + 1) = accS f (Q n) y' := by
        show (xs.take (n + 1)).foldl _ _ = _
        rw [List.take_add_one, ey, List.foldl_append]
        rfl
      have nA2 : ¬ InO ((G.set i (.val true (Ds (Q n).1))).set jt (.val false (enc y'))) F2 A := fun z => by
        obtain ⟨m, d, e, hm⟩ := o2 A z
        exact nA m _ d e hm
      have sA2 : ¬ InS ((G.set i (.val true (Ds (Q n).1))).set jt (.val false (enc y'))) F2 A := fun z => by
        rcases i2 A z with ⟨m, d, e, hm⟩ | z
        · exact nA m _ d e hm
        · cases z
      obtain ⟨hA4, nA4⟩ := f4 A _ hAc' nA2
      have hjl : jt < G.length := (List.getElem?_eq_some_iff.mp (hno jt hjt)).1
      -- the slots without the comprehension's own
      have back : ∀ (m : Nat) mm d, (G.set i (.val true (Ds (Q (n + 1)).1)))[m]? = some (.val mm d) → m ∉ own.map (·.2) ∧ (((G.set i (.val true (Ds (Q n).1))).set jt (.val false (enc y'))).set i (.val true (Ds (f (Q n).1 y').1)))[m]? = some (.val mm d) := fun m mm d e => by
        have hm : m ∉ own.map (·.2) := fun z => by
          have hmi : m ≠ i := fun e => hij (e ▸ z)
          rw [List.getElem?_set_ne (Ne.symm hmi), hno m z] at e
          cases e
        refine ⟨hm, ?_⟩
        have hmj : m ≠ jt := fun z => hm (z ▸ hjt)
        rw [eQ] at e
        by_cases hmi : m = i
        · subst hmi
          rw [List.getElem?_set_self (by rw [List.length_set, List.length_set]; exact hil)]
          rw [List.getElem?_set_self hil] at e
          exact e
        · rw [List.getElem?_set_ne (Ne.symm hmi), List.getElem?_set_ne (Ne.symm hmj), List.getElem?_set_ne (Ne.symm hmi)]
          rw [List.getElem?_set_ne (Ne.symm hmi)] at e
          exact e
      have hσ : ∀ m, m ∉ own.map (·.2) → σ2[m]? = σ[m]? := fun m hm => by
        rw [j2 m (fun z => hm (by rw [List.mem_singleton.mp z]; exact hjt)), wipe_at hm]
      have R5 : Rel X.K (G.set i (.val true (Ds (Q (n + 1)).1))) σ H4 (updF F2 i fs') := ⟨by rw [List.length_set]; exact Rl.len, fun m mm d e => by
          obtain ⟨b1, b2⟩ := back m mm d e
          obtain ⟨u, h1, h2⟩ := R4.rep m mm d b2
          rw [hσ m b1] at h1
          exact ⟨u, h1, h2⟩, fun m d e => R4.nd m d (back m _ d e).2, fun m m' d mm' d' hne e e' => R4.dj m m' d mm' d' hne (back m _ d e).2 (back m' _ d' e').2, fun m a e => by
          have hmi : m ≠ i := fun z => by subst z; rw [List.getElem?_set_self hil] at e; cases e
          rw [List.getElem?_set_ne (Ne.symm hmi)] at e
          exact Rl.ex m a e⟩
      have inO : ∀ a, InO (G.set i (.val true (Ds (Q (n + 1)).1))) (updF F2 i fs') a → InO (((G.set i (.val true (Ds (Q n).1))).set jt (.val false (enc y'))).set i (.val true (Ds (f (Q n).1 y').1))) (updF F2 i fs') a := fun a ⟨m, d, e, hm⟩ => ⟨m, d, (back m _ d e).2, hm⟩
      have nA5 : ∀ (m : Nat) mm d, (G.set i (.val true (Ds (Q (n + 1)).1)))[m]? = some (.val mm d) → A ∉ updF F2 i fs' m := fun m mm d e z => by
        obtain ⟨b1, b2⟩ := back m mm d e
        cases mm with
        | true => exact nA4 ⟨m, d, b2, z⟩
        | false =>
          have hmi : m ≠ i := fun q => by subst q; rw [List.getElem?_set_self (by rw [List.length_set, List.length_set]; exact hil)] at b2; cases b2
          rw [updF_ne hmi] at z
          rw [List.getElem?_set_ne (Ne.symm hmi)] at b2
          exact sA2 ⟨m, d, b2, z⟩
      have fr : Frm (InO (G.set i (.val true (Ds (Q n).1))) Fn) Hi' (InO (G.set i (.val true (Ds (Q (n + 1)).1))) (updF F2 i fs')) H4 := fun b o hb hnb => by
        obtain ⟨h1, h2⟩ := f2 b o hb hnb
        obtain ⟨h3, h4⟩ := f4 b o h1 h2
        exact ⟨h3, fun z => h4 (inO b z)⟩
      have lO : Lsts Hi' (InO (G.set i (.val true (Ds (Q n).1))) Fn) := (Rn.same sy).lsts
      obtain ⟨gd4, nn4⟩ := ps _ _ _ _ fr lO nn gA'
      refine ⟨acc, hA4, by unfold LenOk at hlen; omega, acc ++ [v], updF F2 i fs', upd_same, ?_, by simp; omega, ?_, ?_, nA5, nn4, ?_⟩
      · have ra : Reps X.K H4 [] acc ((Q n).2.map enc) := by
          have := (Reps.frm fr lO (rA.same sy) fun _ h => nomatch h).1
          exact this
        have rb := Reps.cons r4 .nil
        have := ra.append rb
        rw [eQ]
        show Reps X.K _ [] (acc ++ [v]) (((Q n).2 ++ [(f (Q n).1 y').2]).map enc)
        rw [List.map_append]
        exact this.upd hA4 (by simp)
      · exact R5.updN hA4 (.lst acc) nA5
      · intro b o hb hnb
        obtain ⟨h1, h2⟩ := fn b o hb hnb
        obtain ⟨h3, h4⟩ := fr b o (sy _ _ h1) h2
        have hbA : b ≠ A := ne_of_none hb hnA
        exact ⟨by rw [upd_ne hbA]; exact h3, h4⟩
      · have nAn : A ∉ nodes := fun z => n2 A z hA
        exact (ps (· = A) H4 (· = A) _ (frm_upd (xs := acc)) (fun b e => ⟨_, by rw [e]; exact hA4, .lst acc⟩) (fun a ha e => nAn (by rw [← e]; exact ha)) gd4).1
  · rintro Hn ⟨acc, Fn, hAc, rA, lA, Rn, fn, nA, nn, gA⟩
    have eQ : Q xs.length = mapAcc f s0 xs := by
      show (xs.take xs.length).foldl _ _ = _
      rw [List.take_length]
      rfl
    rw [eQ] at rA Rn fn nA
    exact kQ (.ref A) Hn Fn [A] Rn fn (.lst hAc rA) (by simp) (fun b hb ⟨m, d, e, hm⟩ => nA m _ d e (by rw [← List.mem_singleton.mp hb]; exact hm)) fun b hb => .inr (by rw [List.mem_singleton.mp hb]; exact hnA)
theorem lcF_core {t u : Type} [Enc t] [Enc u] {xs : List t} {f : t → u} {bb : t → Bool} {pt pe : t → Prop} {is : List Nat} {T : Gam → t → Gam} {own : List (Str × Nat)} {σ : St} {H : Hp} {F : Nat → List Addr} {J : It} {nodes : List Addr} {Gd : Hp → Prop} {Q : VK}
    (hG : G.length = N.length) (hno : notOwn G (own.map (·.2)) = true) (his : ∀ i ∈ is, i ∈ own.map (·.2))
    (hx : ∀ x ∈ xs, pt x ∧ (bb x = true → pe x)) (hlen : LenOk xs.length) (R : Rel X.K G σ H F) (nO : ∀ a ∈ nodes, ¬ InO G F a) (n2 : ∀ a ∈ nodes, H a ≠ none) (ps : Pst nodes Gd) (g1 : Gd H) (w : Walk J xs.length Gd (YR X.K nodes xs))
    (q : ∀ v H' fp, Same H H' → Rep X.K H' fp v (enc ((xs.filter bb).map f)) → KdOk .frs (InS G F) H fp → Q v H') :
    tLc (fun _ H R => R J H) (gC X.K N.length is T) (tsC X.K (fun x => T (wipeG G (own.map (·.2))) x) pt bb) (teC X.K (fun x => T (wipeG G (own.map (·.2))) x) pe f .frs) (own.map (·.2)) σ H Q := by
  intro D hD
  have gS : ∀ {Ha Hb : Hp}, Same Ha Hb → Gd Ha → Gd Hb := fun sab g => (ps _ _ (fun _ => False) _ (Same.frm sab) (fun _ z => z.elim) (fun _ _ z => z) g).1
  refine lc_it w (fun i Hi => ∃ acc fpa, Hi D = some (.lst acc) ∧ Reps X.K Hi fpa acc (((xs.take i).filter bb).map fun x => enc (f x)) ∧ acc.length ≤ i ∧ KdOk .frs (InS G F) H fpa ∧ D ∉ fpa ∧ Same H Hi ∧ Gd Hi) ?_ ?_ ?_ ?_
  · exact ⟨[], [], upd_same, .nil, Nat.le_refl _, KdOk.nil, (by simp), Same.upd hD, gS (Same.upd hD) g1⟩
  · exact fun i Hi _ ⟨_, _, _, _, _, _, _, _, g⟩ => g
  · rintro i x Hi Hi' hi ⟨acc, fpa, hA, rA, lA, kA, dA, sA, gA⟩ ⟨sy, fpx, y, ey, ry, ny⟩
    have gA' : Gd Hi' := gS sy gA
    have sHi' : Same H Hi' := sA.trans sy
    have R' := (R.same sHi').wipe (own.map (·.2))
    have ym : y ∈ xs := List.mem_of_getElem? ey
    obtain ⟨py1, py2⟩ := hx y ym
    have hA' : Hi' D = some (.lst acc) := sy _ _ hA
    refine ⟨wipeG G (own.map (·.2)), y, F, fpx, by rw [wipeG_len, hG], R', ry, fun a ha z => nO a (ny a ha) ((InO.wipe hno).mp z), fun σ2 F2 l2 R2 f2 m2 i2 o2 j2 e2 => ⟨?_, ?_⟩⟩
    · rw [wipe_ext (b := L2.wipe σ (own.map (·.2))) e2 (fun j hj => j2 j fun z => hj (his j z)), wipe_wipe]
    · have etake : (xs.take (i + 1)) = xs.take i ++ [y] := by
        rw [List.take_add_one, ey]; rfl
      refine ⟨y, F2, R2, py1, fun H3 s3 => ?_⟩
      have sH3 : Same H H3 := sHi'.trans s3
      have hD3 : H3 D = some (.lst acc) := s3 _ _ hA'
      cases hb : bb y with
      | false =>
        refine iteF ⟨acc, fpa, hD3, ?_, by omega, kA, dA, sA.trans (sy.trans s3), gS s3 gA'⟩
        rw [etake, List.filter_append]
        simp only [List.filter_cons, hb, List.filter_nil, Bool.false_eq_true, if_false, List.append_nil]
        exact (rA.same sy).same s3
      | true =>
        refine iteT ⟨y, F2, R2.same s3, py2 hb, fun v H4 fp s4 r4 k4 => ?_⟩
        have hD4 : H4 D = some (.lst acc) := s4 _ _ hD3
        have kH : KdOk .frs (InS G F) H fp := ⟨k4.1, fun a ha => sH3.free (k4.2 a ha)⟩
        have nD : D ∉ fp := fun z => by have := k4.2 D z; rw [hD3] at this; cases this
        have ra : Reps X.K H4 fpa acc _ := ((rA.same sy).same s3).same s4
        have rb := Reps.cons r4 .nil
        rw [List.append_nil] at rb
        have nd : D ∉ fpa ++ fp := by rw [List.mem_append]; exact fun z => z.elim dA nD
        refine ⟨acc, hD4, by unfold LenOk at hlen; omega, acc ++ [v], fpa ++ fp, upd_same, ?_, by simp; omega, ?_, nd, ?_, ?_⟩
        · rw [etake, List.filter_append, List.map_append]
          simp only [List.filter_cons, hb, List.filter_nil, if_true, List.map_cons, List.map_nil]
          exact (ra.append rb).upd hD4 nd
        · refine ⟨List.nodup_append.mpr ⟨kA.1, kH.1, fun a ha b hb e => ?_⟩, fun a ha => (List.mem_append.mp ha).elim (kA.2 a) (kH.2 a)⟩
          subst e
          exact ((rA.same sy).same s3).there ha (k4.2 a hb)
        · exact fun b o e => by
            have hb : b ≠ D := fun z => by rw [z, hD] at e; cases e
            rw [upd_ne hb]
            exact s4 _ _ (s3 _ _ (sy _ _ (sA _ _ e)))
        · exact (ps (· = D) H4 (· = D) _ (frm_upd (xs := acc)) (fun b e => ⟨_, by rw [e]; exact hD4, .lst acc⟩) (fun a ha e => n2 a ha (by rw [e]; exact hD)) (gS s4 (gS s3 gA'))).1
  · rintro Hn ⟨acc, fpa, hA, rA, lA, kA, dA, sA, gA⟩
    refine q (.ref D) Hn (D :: fpa) sA ?_ ?_
    · refine .lst hA ?_
      rw [List.take_length] at rA
      rw [List.map_map]
      exact rA
    · refine ⟨List.nodup_cons.mpr ⟨dA, kA.1⟩, fun a ha => ?_⟩
      rcases List.mem_cons.mp ha with e | e
      · subst e; exact hD
      · exact kA.2 a e
/-- [elt for tg in e if ..], e writes an object -/
theorem ew_lcF {t u : Type} [Enc t] [Enc u] {xs : List t} {f : t → u} {bb : t → Bool} {d' : D} {i : Nat} {pI pF pL : Prop} {pt pe : t → Prop} {elt tg iter : Expr} {ifs : List Expr} {scope : Scope} {own : List (Str × Nat)} {is : List Nat} {T : Gam → t → Gam} (C : Cxf X N sc)
    (hG : (G.set i (.val true d')).length = N.length) (hI : EW X G iter pI i d' xs) (ok : BlkOk N sc scope own) (hno : notOwn (G.set i (.val true d')) (own.map (·.2)) = true) (his : ∀ i ∈ is, i ∈ own.map (·.2))
    (hT : ∀ (s : Shared) (H : Hp) (D : Addr) (cl : List (Str × Addr)) (fp : List Addr), TGT (X.blk s H scope (compEnvC scope cl D X.env) fp) N.length tg is T)
    (ht : ∀ (s : Shared) (H : Hp) (D : Addr) (cl : List (Str × Addr)) (fp : List Addr) (x : t), TsX (X.blk s H scope (compEnvC scope cl D X.env) fp) (T (wipeG (G.set i (.val true d')) (own.map (·.2))) x) ifs (pt x) (bb x))
    (he : ∀ (s : Shared) (H : Hp) (D : Addr) (cl : List (Str × Addr)) (fp : List Addr) (x : t), EX (X.blk s H scope (compEnvC scope cl D X.env) fp) (T (wipeG (G.set i (.val true d')) (own.map (·.2))) x) elt (pe x) (f x) .frs)
    (c1 : CmbA xs bb pt pe pF) (c2 : Cmb pI pF pL) (hs : ∀ x, foldedSetIterable iter X.env x = pure x := by intro _; rfl) : EW X G (.ListComp elt [⟨tg, iter, ifs, 0⟩] scope lpos) (pL ∧ LenOk xs.length) i d' ((xs.filter bb).map f) := by
  obtain ⟨ti, hI1, hI2⟩ := hI
  refine ⟨_, pe_lc (wi := iList X.K ti) (g := gC X.K N.length is T) (tt := tsC X.K (fun x => T (wipeG (G.set i (.val true d')) (own.map (·.2))) x) pt bb) (te := teC X.K (fun x => T (wipeG (G.set i (.val true d')) (own.map (·.2))) x) pe f .frs) C.calm (by rw [C.hN]; exact C.nd) (pi_list hI1) (by rw [C.hN, C.hs]; exact ok) (fun s H D cl fp => (hT s H D cl fp).canon) (fun s H D cl fp => TsX.canon (ht s H D cl fp)) (fun s H D cl fp => EX.canon (he s H D cl fp)) hs, fun σ H F Q Rl hp q => ?_⟩
  obtain ⟨hp0, hlen⟩ := hp
  obtain ⟨hpI, hpF⟩ := c2.out hp0
  have hx := c1.out hpF
  refine hI2 σ H F _ Rl hpI fun v H1 F' fr q1 q2 q3 q4 q5 q6 => ?_
  have r1 := q3
  obtain ⟨l, vs, fp', rfl, h1, rs, e⟩ := q3.lst_inv'
  refine ⟨l, rfl, ⟨vs, SqL.of h1⟩, ?_⟩
  refine lcF_core (X := X) (N := N) (J := Itl X.K l) (nodes := fr) (Gd := fun H => Rep X.K H fr (.ref l) (enc xs)) hG hno his hx hlen q1 q5 (fun a ha => r1.there ha) pst_rep r1 ⟨fun i H hi g => ?_, fun H g => ?_, fun i H x H' hi g y => ?_⟩ fun v H' fp s2 rv kd => ?_
  · obtain ⟨l', vs', f', e1, h', rs', _⟩ := g.lst_inv'
    injection e1 with e1
    subst e1
    have hl := rs'.length
    rw [List.length_map] at hl
    exact ⟨vs', vs'[i]'(by omega), SqL.of h', by simp [show i < vs'.length by omega]⟩
  · obtain ⟨l', vs', f', e1, h', rs', _⟩ := g.lst_inv'
    injection e1 with e1
    subst e1
    have hl := rs'.length
    rw [List.length_map] at hl
    exact ⟨vs', SqL.of h', by omega⟩
  · obtain ⟨e0, hx⟩ := y
    subst e0
    obtain ⟨l', vs', f', e1, h', rs', ef⟩ := g.lst_inv'
    injection e1 with e1
    subst e1
    have q := hx vs' (SqL.of h')
    obtain ⟨u, fu, e3, ru, su, _⟩ := rs'.get (i := i) (d := enc xs[i]) (by simp [hi])
    rw [q] at e3
    have e4 := Option.some.inj e3
    subst e4
    exact ⟨Same.refl _, fu, xs[i], by simp [hi], ru, fun a ha => by rw [ef]; exact List.mem_cons_of_mem _ (su a ha)⟩
  · refine q v H' F' fp (q1.same s2) (fun b o hb hn => ?_) rv kd.1 (fun b hb z => ?_) fun b hb => ?_
    · obtain ⟨z1, z2⟩ := q2 b o hb hn
      exact ⟨s2 _ _ z1, z2⟩
    · obtain ⟨o, ho, _⟩ := q1.lsts b z
      rw [kd.2 b hb] at ho
      cases ho
    · by_cases z : InO G F b
      · exact .inl z
      · cases hb2 : H b with
        | none => exact .inr rfl
        | some o =>
          have := (q2 b o hb2 z).1
          rw [kd.2 b hb] at this
          cases this
end
section
variable {X : Cx} {G : Gam} {N : List Str} {sc : Scope} {e a b c : Expr} {es : List Expr} {p pa pb pr q : Prop} {pos ppos apos cpos npos : Pos}
variable {W : WX} {S B R : Type} [Ret R] {g : S → Gam} {gb : B → Gam} {rest : List Stmt}
/-- z = e -/
theorem sx_setW {U : Type} [Enc U] {u : U} {d' : D} {z : Str} {pR : U → Prop} {oR : U → Out S B R} (C : Cxf X N sc) (i : Nat) (j : Nat) (Vz : Vs X N sc j z) (he : EW X G e pa i d' u)
    (hR : ∀ u : U, SX X W ((G.set i (.val true d')).set j (.val false (enc u))) rest (pR u) g gb (oR u)) (c2 : Cmb pa (lt u pR) p) (hl : Nat.blt j G.length = true := by rfl)
    (hs : swapsWith e (some (.Name z npos)) pos.line X.env = pure false := by rfl) :
    SX X W G (.Assign [.Name z npos] e pos :: rest) p g gb (lt u oR) := by
  obtain ⟨te, a1, a2⟩ := he
  obtain ⟨ts, r1, r2⟩ := hR u
  refine ⟨_, pss_cons (ps_set (by rw [C.hN]; exact C.nd) (by rw [C.hN]; exact Vz.ix) (by rw [C.hs]; exact Vz.loc) a1 hs (by rw [C.hs]; exact Vz.fn)) r1, fun σ H Fs D Rl hp k => ?_⟩
  obtain ⟨hpa, hpR⟩ := c2.out hp
  refine a2 σ H Fs _ Rl hpa fun v H' F' fr q1 q2 q3 q4 q5 q6 => ?_
  obtain ⟨b1, b2⟩ := q1.put (i := j) (m := false) (Same.refl _) q3 (by rw [List.length_set]; exact blt_lt hl) q5
  exact r2 _ _ _ D b1 hpR (k.of (q2.trans b2))
theorem sx_setWV {U : Type} [Enc U] {u : U} {d' : D} {z : Str} {pR : U → Prop} {rR : U → R} (C : Cxf X N sc) (i : Nat) (j : Nat) (Vz : Vs X N sc j z) (he : EW X G e pa i d' u)
    (hR : ∀ u : U, SX X W ((G.set i (.val true d')).set j (.val false (enc u))) rest (pR u) g gb (.ret (rR u) : Out S B R)) (c2 : Cmb pa (lt u pR) p) (hl : Nat.blt j G.length = true := by rfl)
    (hs : swapsWith e (some (.Name z npos)) pos.line X.env = pure false := by rfl) :
    SX X W G (.Assign [.Name z npos] e pos :: rest) p g gb (.ret (lt u rR) : Out S B R) := sx_setW (oR := fun u => (.ret (rR u) : Out S B R)) C i j Vz he hR c2 hl hs
theorem sx_setWF {U : Type} [Enc U] {u : U} {d' : D} {z : Str} {pR : U → Prop} {rR : U → S} (C : Cxf X N sc) (i : Nat) (j : Nat) (Vz : Vs X N sc j z) (he : EW X G e pa i d' u)
    (hR : ∀ u : U, SX X W ((G.set i (.val true d')).set j (.val false (enc u))) rest (pR u) g gb (.fall (rR u) : Out S B R)) (c2 : Cmb pa (lt u pR) p) (hl : Nat.blt j G.length = true := by rfl)
    (hs : swapsWith e (some (.Name z npos)) pos.line X.env = pure false := by rfl) :
    SX X W G (.Assign [.Name z npos] e pos :: rest) p g gb (.fall (lt u rR) : Out S B R) := sx_setW (oR := fun u => (.fall (rR u) : Out S B R)) C i j Vz he hR c2 hl hs
/-- e, by itself -/
theorem sx_exprW {U : Type} [Enc U] {u : U} {d' : D} {oR : Out S B R} (i : Nat) (he : EW X G e pa i d' u) (hR : SX X W (G.set i (.val true d')) rest pr g gb oR) (c2 : Cmb pa pr p)
    (hs : swapsWith e none pos.line X.env = pure false := by rfl) : SX X W G (.Expr e pos :: rest) p g gb oR := by
  obtain ⟨te, a1, a2⟩ := he
  obtain ⟨ts, r1, r2⟩ := hR
  refine ⟨_, pss_cons (ps_expr a1 hs) r1, fun σ H Fs D Rl hp k => ?_⟩
  obtain ⟨hpa, hpR⟩ := c2.out hp
  exact a2 σ H Fs _ Rl hpa fun v H' F' fr q1 q2 _ _ _ _ => r2 _ _ _ D q1 hpR (k.of q2)
/-- return e, with the object that e writes -/
theorem sx_retMW {a0 : Addr} {S' R' : Type} [Obj S'] [Enc R'] {s0 s : S'} {x : R'} (i : Nat) (he : EW X G e p i (objD (some a0) s) x) (h : G[i]? = some (.val true (objD (some a0) s0)) := by rfl) :
    SX X W G (.Return (some e) pos :: rest) p g gb (.ret ((s, x) : RS a0 S' R') : Out S B (RS a0 S' R')) := by
  obtain ⟨te, h1, h2⟩ := he
  refine ⟨_, pss_cons (ps_ret h1) pss_never, fun σ H F D Rl hp k => h2 σ H F _ Rl hp fun v H' F' fr q1 q2 q3 q4 q5 q6 => ?_⟩
  have hi : (G.set i (.val true (objD (some a0) s)))[i]? = some (.val true (objD (some a0) s)) := List.getElem?_set_self (List.getElem?_eq_some_iff.mp h).1
  obtain ⟨v0, e0, r0⟩ := q1.rep i _ _ hi
  obtain ⟨a', dx, vs0, fp0, rfl, hw, hH, hl, rs, eF⟩ := r0.obj_inv
  obtain rfl := hw a0 rfl
  refine k v H' (F' i) fr (r0.repin fun b e => by cases e) (q1.nd i _ hi) q3 q4 (fun b hb z => q5 b hb ⟨i, _, hi, z⟩) (fun b hb => ?_) q6 fun b o hb n => ⟨(q2 b o hb n).1, fun z => (q2 b o hb n).2 ⟨i, _, hi, z⟩⟩
  by_cases z : InO G F b
  · exact .inl z
  · cases hb2 : H b with
    | none => exact .inr rfl
    | some o => exact absurd ⟨i, _, hi, hb⟩ (q2 b o hb2 z).2
/-- e != e2 where e writes, e2 reads -/
theorem tw_ne {t : Type} [Enc t] [DecidableEq t] [PyEq t] {x y : t} {d' : D} {i : Nat} {ky : Kd} (hu : X.A.units + 64 < cLine) (ha : EW X G a pa i d' x) (hb : EX X (G.set i (.val true d')) b pb y ky) {p1 : Prop} (c1 : Cmb pa pb p1) (c2 : Cmb p1 (PyEq.good x = true ∧ PyEq.good y = true) p) (hd : PyEq.dep t ≤ 64 := by decide) :
    TW X G (.Compare a [.NotEq] [b] pos) p i d' (!decide (x = y)) := by
  obtain ⟨ta, a1, a2⟩ := ha
  obtain ⟨tb, b1, b2⟩ := hb
  refine ⟨_, pt_cmpR (op_neD hu) a1 b1 (by first | exact nomark _ | rfl), fun σ H F Q R hp k => ?_⟩
  obtain ⟨hp1, hg⟩ := c2.out hp
  obtain ⟨hpa, hpb⟩ := c1.out hp1
  refine a2 σ H F _ R hpa fun v H1 F' fr q1 q2 q3 _ _ _ => ?_
  refine b2 σ H1 F' _ q1 hpb fun w H2 fp2 s2 r2 _ => ?_
  refine ⟨_, _, (q3.same s2).dp (shaped_of hg.1 hd), r2.dp (shaped_of hg.2 hd), shaped_of hg.1 hd, shaped_of hg.2 hd, ?_⟩
  rw [PyEq.eq]
  exact ⟨_, rfl, k H2 F' (q1.same s2) (q2.trans (q1.frm s2))⟩
/-- a or b where a writes -/
theorem tw_or {x y : Bool} {d' : D} {i : Nat} {rest : List Expr} (ha : TW X G a pa i d' x) (hb : WX' X (G.set i (.val true d')) (.BoolOp .Or (b :: rest) pos) pb y) (cc : CmbIf (!x) pa pb p) : TW X G (.BoolOp .Or (a :: b :: rest) pos) p i d' (x || y) := by
  obtain ⟨ta, a1, a2⟩ := ha
  obtain ⟨tb, b1, b2⟩ := hb
  refine ⟨_, (pw_or a1 b1).pt, fun σ H F Q R hp k => ?_⟩
  obtain ⟨h1, h2⟩ := cc.out hp
  refine a2 σ H F _ R h1 fun H1 F' q1 q2 => ?_
  cases x with
  | true => exact iteT (k H1 F' q1 q2)
  | false => exact iteF (b2 σ H1 F' _ q1 (h2 rfl) fun H2 s2 => k H2 F' (q1.same s2) (q2.trans (q1.frm s2)))
/-- if c: sa (which leaves) .. and the rest; c writes -/
theorem sx_ifrW {oa ob : Out S B R} {d' : D} (i : Nat) {sa : List Stmt} {bb : Bool} {pc : Prop} (hc : TW X G c pc i d' bb) (ha : SX X W (G.set i (.val true d')) sa pa g gb oa) (hn : NF oa) (hb : SX X W (G.set i (.val true d')) rest pb g gb ob) (cc : Cmb3 bb pc pa pb p) : SX X W G (.If c sa [] pos :: rest) p g gb (if bb = true then oa else ob) := by
  obtain ⟨tc, c1, c2⟩ := hc
  obtain ⟨ta, a1, a2⟩ := ha
  obtain ⟨tb, b1, b2⟩ := hb
  refine ⟨_, pss_cons (ps_if c1 a1 pss_nil) b1, fun σ H F D Rl hp k => ?_⟩
  obtain ⟨h1, h2, h3⟩ := cc.out hp
  refine c2 σ H F _ Rl h1 fun H1 F' q1 q2 => ?_
  have kk : ∀ {o : Out S B R}, OutOk X W G F H g gb D o → OutOk X W (G.set i (.val true d')) F' H1 g gb D o := fun k => k.of q2
  cases bb with
  | true => exact iteT (a2 σ H1 F' _ q1 (h2 rfl) ((kk k).nf hn))
  | false => exact iteF (b2 σ H1 F' D q1 (h3 rfl) (kk k))
theorem sx_ifrWV {x y : R} {d' : D} (i : Nat) {sa : List Stmt} {bb : Bool} {pc : Prop} (hc : TW X G c pc i d' bb) (ha : SX X W (G.set i (.val true d')) sa pa g gb (.ret x : Out S B R)) (hb : SX X W (G.set i (.val true d')) rest pb g gb (.ret y : Out S B R)) (cc : Cmb3 bb pc pa pb p) : SX X W G (.If c sa [] pos :: rest) p g gb (.ret (if bb = true then x else y) : Out S B R) := by
  have h := sx_ifrW i hc ha (.ret x) hb cc (pos := pos)
  cases bb <;> exact h
end
section
variable {P : Program} {w : World} {K : PySem.W.Frag} {mg : Str → Option Value} {base : Heap} {x qual : Str} {params : Arguments} {body : List Stmt} {sc : Scope} {f : Addr} {fd : FuncData} {ps : List Str}
theorem calD_mk {k : Nat} {sp sp' : Sp} (F : FunD K x qual params body sc [] [] f fd) (hm : mg x = some (.ref f)) (hb : Binds K fd ps [])
    (h : FnOk P w K mg base (L2.CX P w) k f fd ps sp) (hi : ∀ vs H Q E, sp' vs H Q E → sp vs H Q E) : Cal P w K mg base x k ps sp' :=
  ⟨f, fd, hm, F.kp, hb, h.imp hi⟩
end
end BW

set_option Elab.async false
set_option linter.all false
set_option maxRecDepth 100000
set_option maxHeartbeats 4000000
/-! ('in', n) or ('never', places); xs.index(x); a walk over an owned list whose items are written. -/
namespace BW
open PySem L2
/-- what becomes of a listener: in step, or never -/
inductive Jn where
  | inn (n : Int)
  | nev (r : List Int)
deriving DecidableEq
instance : Enc Jn := ⟨fun o => match o with | .inn n => .tup [.str (Str.ofString "in"), .int n] | .nev r => .tup [.str (Str.ofString "never"), enc r]⟩
def jnTag : Jn → Str
  | .inn _ => Str.ofString "in"
  | .nev _ => Str.ofString "never"
def jnNum : Jn → Int
  | .inn n => n
  | .nev _ => 0
def jnRing : Jn → List Int
  | .inn _ => []
  | .nev r => r
def jnIsI : Jn → Bool
  | .inn _ => true
  | .nev _ => false
theorem in_never : Str.ofString "in" ≠ Str.ofString "never" := by decide +kernel
theorem jn_eq (x y : Jn) : PyData.eqv (pyd (enc x)) (pyd (enc y)) = decide (x = y) := by
  cases x with
  | inn n => cases y with
    | inn m =>
      show (PyData.eqv (.str (Str.ofString "in")) (.str (Str.ofString "in")) && (PyData.eqv (.int n) (.int m) && true)) = _
      rw [eqv_str, eqv_int]
      simp
    | nev s =>
      show (PyData.eqv (.str (Str.ofString "in")) (.str (Str.ofString "never")) && (PyData.eqv (.int n) (pyd (enc s)) && true)) = _
      rw [eqv_str]
      simp [in_never]
  | nev s => cases y with
    | inn m =>
      show (PyData.eqv (.str (Str.ofString "never")) (.str (Str.ofString "in")) && (PyData.eqv (pyd (enc s)) (.int m) && true)) = _
      rw [eqv_str]
      simp [in_never.symm]
    | nev t =>
      show (PyData.eqv (.str (Str.ofString "never")) (.str (Str.ofString "never")) && (PyData.eqv (pyd (enc s)) (pyd (enc t)) && true)) = _
      rw [eqv_str, PyEq.eq s t]
      simp
instance : PyEq Jn := ⟨2, fun _ => true, jn_eq, fun x _ => by
  cases x with
  | inn n => show ((PyData.canLay0 (.str (Str.ofString "in"))) && ((PyData.canLay0 (.int n)) && true)) = true; rw [show PyData.canLay0 (.str (Str.ofString "in")) = true by decide +kernel]; rfl
  | nev s =>
    show ((PyData.canLay0 (.str (Str.ofString "never"))) && ((pyd (enc s)).canLay0 && true)) = true
    rw [PyEq.lay s (PyEq0.all s), show PyData.canLay0 (.str (Str.ofString "never")) = true by decide +kernel]; rfl, fun x => by
  cases x with
  | inn n => show max 0 (max 0 0) + 1 ≤ 2; decide
  | nev s =>
    have := PyEq.dp s
    show max 0 (max (pyd (enc s)).depth 0) + 1 ≤ 2
    have h1 : PyEq.dep (List Int) = 1 := rfl
    omega⟩
instance : PyEq0 Jn := ⟨fun _ => rfl⟩
instance : NonN Jn := ⟨fun x => by cases x <;> exact ⟨rfl, rfl⟩⟩
theorem jn_tup (x : Jn) : isIns (enc x) "tuple" = true := by
  cases x <;> rfl
section
variable {X : Cx} {G : Gam} {N : List Str} {sc : Scope} {e a b c : Expr} {es : List Expr} {p pa pb pr q : Prop} {pos ppos apos cpos npos fpos tpos ipos : Pos}
theorem ex_jn0 {x : Jn} {kx ky : Kd} (ha : EX X G a p x kx) (hb : EX X G b True (0 : Int) ky) (hs : PlainIx b := by exact fun _ _ => rfl) : EX X G (.Subscript a b pos) p (jnTag x) kx := by
  cases x with
  | inn n => exact ex_ixT (jnTag (.inn n)) ha hb 0 rfl rfl rfl hs
  | nev s => exact ex_ixT (jnTag (.nev s)) ha hb 0 rfl rfl rfl hs
theorem ex_jn1 {x : Jn} {kx ky : Kd} (ha : EX X G a pa x kx) (hb : EX X G b True (1 : Int) ky) (c : Cmb pa (jnIsI x = true) p) (hs : PlainIx b := by exact fun _ _ => rfl) : EX X G (.Subscript a b pos) p (jnNum x) kx := by
  cases x with
  | inn n =>
    have h := ex_ixT (pos := pos) (jnNum (.inn n)) ha hb 1 rfl rfl rfl hs
    obtain ⟨te, h1, h2⟩ := h
    exact ⟨te, h1, fun σ H F Q R hp q => h2 σ H F Q R (c.out hp).1 q⟩
  | nev s =>
    have h := ex_ixT (pos := pos) s ha hb 1 rfl rfl rfl hs
    obtain ⟨te, h1, h2⟩ := h
    exact ⟨te, h1, fun σ H F Q R hp q => nomatch (c.out hp).2⟩
theorem ex_jnR {x : Jn} {kx ky : Kd} (ha : EX X G a pa x kx) (hb : EX X G b True (1 : Int) ky) (c : Cmb pa (jnIsI x = false) p) (hs : PlainIx b := by exact fun _ _ => rfl) : EX X G (.Subscript a b pos) p (jnRing x) kx := by
  cases x with
  | inn n =>
    have h := ex_ixT (pos := pos) (jnNum (.inn n)) ha hb 1 rfl rfl rfl hs
    obtain ⟨te, h1, h2⟩ := h
    exact ⟨te, h1, fun σ H F Q R hp q => nomatch (c.out hp).2⟩
  | nev s =>
    have h := ex_ixT (pos := pos) (jnRing (.nev s)) ha hb 1 rfl rfl rfl hs
    obtain ⟨te, h1, h2⟩ := h
    exact ⟨te, h1, fun σ H F Q R hp q => h2 σ H F Q R (c.out hp).1 q⟩
theorem ex_optL {t : Type} [Enc t] {xs : List t} {k : Kd} (h : EX X G e p xs k) : EX X G e p (xs.map some) k := h.cast (by
  show D.lst (xs.map enc) = D.lst ((xs.map some).map enc)
  rw [List.map_map]
  rfl)
/-! ### xs.index(x) -/
def ixOf : List Int → Int → Nat
  | [], _ => 0
  | y :: ys, x => if y = x then 0 else ixOf ys x + 1
theorem ixOf_at : ∀ {xs : List Int} {x : Int}, x ∈ xs → xs[ixOf xs x]? = some x ∧ ∀ m : Nat, m < ixOf xs x → xs[m]? ≠ some x
  | [], _, h => nomatch h
  | y :: ys, x, h => by
    unfold ixOf
    by_cases c : y = x
    · rw [if_pos c]
      exact ⟨by rw [List.getElem?_cons_zero, c], fun m hm => absurd hm (Nat.not_lt_zero _)⟩
    · rw [if_neg c]
      obtain ⟨h1, h2⟩ := ixOf_at ((List.mem_cons.mp h).resolve_left fun z => c z.symm)
      refine ⟨by rw [List.getElem?_cons_succ]; exact h1, fun m hm => ?_⟩
      cases m with
      | zero => rw [List.getElem?_cons_zero]; exact fun z => c (Option.some.inj z)
      | succ m => rw [List.getElem?_cons_succ]; exact h2 m (by omega)
theorem ex_index {xs : List Int} {x : Int} {kx ky : Kd} (ha : EX X G a pa xs kx) (he : EX X G e pb x ky) {p1 : Prop} (c1 : Cmb pa pb p1) (c2 : Cmb p1 (x ∈ xs) p)
    (hbase : attributeBase a "index" X.env (eval a X.env) = eval a X.env := by rfl)
    (hfew : ((backTo cpos (starEach [e] X.env)).all (fun x => !x.1) && (backToKw cpos (keywordEach [] X.env)).all (fun x => x.1.isSome) && decide ([e].length + ([] : List Keyword).length + (if ([] : List Keyword).isEmpty then 0 else 1) < 30)) = true := by rfl)
    (hline : (apos.endLine == cpos.line) = true := by rfl) (hst : starEach [e] X.env = (false, eval e X.env) :: starEach [] X.env := by rfl) (hplain : (backTo cpos (starEach [] X.env)).any (·.1) = false := by rfl) :
    EX X G (.Call (.Attribute a "index" apos) [e] [] cpos) p ((ixOf xs x : Nat) : Int) .frs := by
  obtain ⟨ta, a1, a2⟩ := ha
  obtain ⟨te, e1, e2⟩ := he
  refine ⟨_, pe_bm PySem.F.plainAttrs_list PySem.F.slot_list_index PySem.F.type_list_index mt_index a1 (pa_cons e1 pa_nil hst) hbase hfew hline hst hplain, fun σ H F Q R hp k => ?_⟩
  obtain ⟨hp1, hm⟩ := c2.out hp
  obtain ⟨hpa, hpb⟩ := c1.out hp1
  refine a2 σ H F _ R hpa fun v H1 fp s1 r1 _ => ?_
  obtain ⟨l, vs, fp', rfl, hq, rs, _⟩ := r1.lst_inv
  refine ⟨.inl ⟨rfl, _, hq⟩, e2 σ H1 F _ (R.same s1) hpb fun w H2 fp2 s2 r2 _ => ?_⟩
  obtain ⟨rfl, _⟩ := r2.int_inv
  obtain ⟨l', vs', fp3, e3, hq2, rs2, _⟩ := (r1.same s2).lst_inv
  injection e3 with e3
  subst e3
  obtain ⟨rfl, _⟩ := rs2.ints
  obtain ⟨h1, h2⟩ := ixOf_at hm
  refine ⟨l, xs.map V.int, .int x, ixOf xs x, .int x, rfl, rfl, hq2, rfl, ?_, by rw [List.getElem?_map, h1]; rfl, ?_, fun m z' hlt hz => ?_, k _ _ [] (s1.trans s2) (.int _) KdOk.nil⟩
  · rw [List.all_map]
    exact List.all_eq_true.mpr fun _ _ => rfl
  · show (x == x) = true
    exact beq_self_eq_true x
  · rw [List.getElem?_map] at hz
    cases hx : xs[m]? with
    | none => rw [hx] at hz; cases hz
    | some y =>
      rw [hx] at hz
      obtain rfl := Option.some.inj hz
      have hne : y ≠ x := fun z => h2 m hlt (by rw [hx, z])
      show (y == x) = false
      exact beq_eq_false_iff_ne.mpr hne
end
section
variable {X : Cx} {G : Gam} {N : List Str} {sc : Scope} {e a b c : Expr} {es : List Expr} {p pa pb pr q : Prop} {pos ppos apos cpos npos fpos tpos ipos : Pos}
variable {W : WX} {S B R : Type} [Ret R] {g : S → Gam} {gb : B → Gam} {rest : List Stmt}
/-- y[1].append(e) where y is ('never', ..); y not read again -/
theorem sx_appJn {u : Type} [Enc u] {x : Jn} {xv : u} {y : Str} {pR p1 : Prop} {oR : Out S B R} {kx : Kd} (C : Cx0 X N sc) (i : Nat) (V : Vr N sc i y) (hb : EX X G b True (1 : Int) .frs) (he : EX X G e pa xv kx)
    (hR : SX X W (G.set i .no) rest pR g gb oR) (c1 : Cmb pa (jnIsI x = false ∧ LenOk ((jnRing x).length + 1)) p1) (c2 : Cmb p1 pR p) (h : G[i]? = some (.val true (enc x)) := by rfl) (hps : PlainIx b := by exact fun _ _ => rfl)
    (hbase : attributeBase (.Subscript (.Name y ppos) b fpos) "append" X.env (eval (.Subscript (.Name y ppos) b fpos) X.env) = eval (.Subscript (.Name y ppos) b fpos) X.env := by rfl)
    (hfew : ((backTo cpos (starEach [e] X.env)).all (fun x => !x.1) && (backToKw cpos (keywordEach [] X.env)).all (fun x => x.1.isSome) && decide ([e].length + ([] : List Keyword).length + (if ([] : List Keyword).isEmpty then 0 else 1) < 30)) = true := by rfl)
    (hline : (apos.endLine == cpos.line) = true := by rfl) (hst : starEach [e] X.env = (false, eval e X.env) :: starEach [] X.env := by rfl) (hplain : (backTo cpos (starEach [] X.env)).any (·.1) = false := by rfl)
    (hs : swapsWith (.Call (.Attribute (.Subscript (.Name y ppos) b fpos) "append" apos) [e] [] cpos) none pos.line X.env = pure false := by rfl) :
    SX X W G (.Expr (.Call (.Attribute (.Subscript (.Name y ppos) b fpos) "append" apos) [e] [] cpos) pos :: rest) p g gb oR := by
  obtain ⟨te, h1, h2⟩ := he
  obtain ⟨tb, b1, b2⟩ := hb
  obtain ⟨ts, r1, r2⟩ := hR
  refine ⟨_, pss_cons (ps_expr (pe_bm PySem.F.plainAttrs_list PySem.F.slot_list_append PySem.F.type_list_append mt_append (pe_ix ix_tup (pe_slot C V) b1 hps) (pa_cons h1 pa_nil hst) hbase hfew hline hst hplain) hs) r1, fun σ H F D Rl hp k => ?_⟩
  obtain ⟨hp1, hpR⟩ := c2.out hp
  obtain ⟨hpa, hn, hlen⟩ := c1.out hp1
  cases x with
  | inn n => cases hn
  | nev xs =>
  obtain ⟨v0, e0, r0⟩ := Rl.rep i _ _ h
  refine ⟨_, e0, b2 σ H F _ Rl trivial fun w H0 f0 s0 rz _ => ?_⟩
  obtain ⟨rfl, _⟩ := rz.int_inv
  obtain ⟨a0, vs, rfl, hH, rs⟩ := (r0.same s0).tup_inv
  have hx : ([BW.D.str (Str.ofString "never"), enc xs] : List BW.D)[1]? = some (enc xs) := rfl
  obtain ⟨v, fv, ev, rv, sv, _⟩ := rs.get hx
  obtain ⟨l, zs, fl, rfl, hL, rl, e6⟩ := rv.lst_inv'
  refine ⟨a0, vs, 1, .ref l, rfl, rfl, hH, by unfold atI; rw [rs.length]; exact ev, .inl ⟨rfl, _, SqL.of hL⟩, h2 σ H0 F _ (Rl.same s0) hpa fun u' H1 fu s1 ru kd => ?_⟩
  have hln := rl.length
  rw [List.length_map] at hln
  have hlen : LenOk (xs.length + 1) := hlen
  refine ⟨l, zs, u', rfl, rfl, s1 _ _ hL, by unfold LenOk at hlen; omega, ?_⟩
  have hl : l ∈ F i := sv l (by rw [e6]; exact List.mem_cons_self)
  obtain ⟨q1, q2⟩ := Rl.dropMut (H' := upd H1 l (.lst (zs ++ [u']))) h fun b' o hb' n => ⟨by
    have hne : b' ≠ l := fun w => n (by rw [w]; exact hl)
    rw [upd_ne hne]
    exact s1 _ _ (s0 _ _ hb'), id⟩
  exact r2 _ _ _ D q1 hpR (k.of q2)
/-- what is not owned holds no list -/
inductive FlG : Gam → Prop
  | nil : FlG []
  | no {G : Gam} : FlG G → FlG (.no :: G)
  | own {G : Gam} {d : D} : FlG G → FlG (.val true d :: G)
  | flt {G : Gam} {t : Type} [Enc t] [Flat t] (x : t) : FlG G → FlG (.val false (enc x) :: G)
theorem FlG.at {G : Gam} (h : FlG G) : ∀ {m : Nat} {d : D}, G[m]? = some (.val false d) → ∀ {K : PySem.W.Frag} {H : Hp} {fp : List Addr} {v : V}, Rep K H fp v d → fp = [] := by
  induction h with
  | nil => intro m d e; simp at e
  | no _ ih =>
    intro m d e
    cases m with
    | zero => cases e
    | succ m => exact ih (by simpa using e)
  | own _ ih =>
    intro m d e
    cases m with
    | zero => cases e
    | succ m => exact ih (by simpa using e)
  | flt x _ ih =>
    intro m d e K H fp v r
    cases m with
    | zero =>
      have e := Option.some.inj e
      injection e with _ e
      subst e
      exact Flat.flat x r
    | succ m => exact ih (by simpa using e) r
/-- for y in l: l is owned, and not read again; y may be written -/
theorem s1_forOwn {t : Type} [Enc t] {xs : List t} {G0 : Gam} {l y : Str} {body : List Stmt} {pB : t → Prop} {oB : t → Out Unit Unit R} (C : Cxf X N sc) (own : PassesOwn (model X.prog X.w) X.A X.env X.xe)
    (i : Nat) (Vi : Vr N sc i l) (j : Nat) (Vj : Vs X N sc j y) (w : Wk G G0) (hB : ∀ x : t, SX X W (G0.set j (.val true (enc x))) body (pB x) (fun _ : Unit => G0) (fun _ : Unit => G0) (oB x)) (fl : FlG G0)
    (h : G[i]? = some (.val true (enc xs)) := by rfl) (hi : G0[i]? = some .no := by rfl) (hj : G0[j]? = some .no := by rfl)
    (hs : ∀ x, foldedSetIterable (.Name l ipos) X.env x = pure x := by intro _; rfl) :
    S1 X W G (.For (.Name y tpos) (.Name l ipos) body [] pos) (loopP (fun (_ : Unit) x => pB x) (fun (_ : Unit) x => oB x) () xs) (fun _ : Unit => G0) gb (loopL (fun (_ : Unit) x => oB x) () xs : Out Unit B R) := by
  refine ⟨_, ps_for own C.calm (pi_list (pe_slot C.toCx0 Vi)) (pg_name (by rw [C.hN]; exact C.nd) (by rw [C.hN]; exact Vj.ix) (by rw [C.hs]; exact Vj.loc) (by rw [C.hs]; exact Vj.fn)) (SX.canon (I := t) (Gx := fun x => G0.set j (.val true (enc x))) (px := pB) (ox := oB) hB) hs, fun σ H F D Rl hp k => ?_⟩
  obtain ⟨v0, e0, r0⟩ := Rl.rep i _ _ h
  have nd := Rl.nd i _ h
  obtain ⟨a, vs, fp0, rfl, hL, rs0, eF⟩ := r0.lst_inv'
  rw [eF] at nd
  have hln := rs0.length
  rw [List.length_map] at hln
  have jl : j < G0.length := (List.getElem?_eq_some_iff.mp hj).1
  refine ⟨_, e0, a, rfl, ⟨vs, SqL.of hL⟩, ?_⟩
  have wk : Walk (Itl X.K a) xs.length (fun H => H a = some (.lst vs)) (fun i H x H' => H' = H ∧ vs[i]? = some x) := ⟨fun i H hi g => ⟨vs, vs[i]'(by omega), SqL.of g, by simp [show i < vs.length by omega]⟩, fun H g => ⟨vs, SqL.of g, by omega⟩, fun i H x H' hi g y => ⟨y.1, y.2 vs (SqL.of g)⟩⟩
  refine for_it wk (fun n σ' H' => ∃ (F' : Nat → List Addr) (fr : List Addr), Rel X.K G0 σ' H' F' ∧ Frm (InO G F) H (InO G0 F') H' ∧ H' a = some (.lst vs) ∧ Reps X.K H' fr (vs.drop n) ((xs.drop n).map enc) ∧ (a :: fr).Nodup ∧ (∀ (m : Nat) mm d, G0[m]? = some (.val mm d) → ∀ b ∈ a :: fr, b ∉ F' m) ∧ (∀ b ∈ fr, b ∈ fp0) ∧ loopP (fun (_ : Unit) x => pB x) (fun (_ : Unit) x => oB x) () (xs.drop n) ∧ (loopL (fun (_ : Unit) x => oB x) () xs : Out Unit B R) = loopL (fun (_ : Unit) x => oB x) () (xs.drop n)) ?_ ?_ ?_ ?_
  · refine ⟨F, fp0, w.rel Rl, w.frm, hL, rs0, nd, fun m mm d e b hb z => ?_, fun _ h => h, hp, rfl⟩
    obtain ⟨m', e', _⟩ := w.get e
    have hm : i ≠ m := fun q => by subst q; rw [hi] at e; cases e
    exact Rl.dj i m _ _ _ hm h e' b (by rw [eF]; exact hb) z
  · exact fun n σ' H' _ ⟨F', fr, _, _, q, _⟩ => q
  · rintro n x σ' H' H2 hn ⟨F', fr, R', f', hL', rs, nd', dj', sub, hP, hE⟩ ⟨rfl, ex⟩
    have hd : xs.drop n = xs[n] :: xs.drop (n + 1) := List.drop_eq_getElem_cons hn
    have hnv : n < vs.length := by omega
    have hdv : vs.drop n = vs[n] :: vs.drop (n + 1) := List.drop_eq_getElem_cons hnv
    rw [List.getElem?_eq_getElem hnv] at ex
    obtain rfl := Option.some.inj ex
    rw [hd] at hP hE
    rw [hd, hdv] at rs
    obtain ⟨hP1, hP2⟩ := hP
    cases rs with
    | cons r1 rs2 =>
    rename_i f1 f2
    have nda := List.nodup_cons.mp nd'
    have ndb := List.nodup_append.mp nda.2
    have R2 := R'.putD (i := j) r1 jl ndb.1 fun m mm d e b hb z => dj' m mm d e b (List.mem_cons_of_mem _ (List.mem_append_left _ hb)) z
    have hnj : ∀ (m : Nat) mm d, G0[m]? = some (.val mm d) → m ≠ j := fun m mm d e q => by subst q; rw [hj] at e; cases e
    have inO1 : ∀ b, InO (G0.set j (.val true (enc xs[n]))) (updF F' j f1) b → InO G0 F' b ∨ b ∈ f1 := fun b ⟨m, d, e, hb⟩ => by
      by_cases q : m = j
      · subst q; rw [updF_same] at hb; exact .inr hb
      · rw [updF_ne q] at hb; exact .inl ⟨m, d, set_ne q e, hb⟩
    have outO : ∀ b ∈ a :: f2, ¬ InO (G0.set j (.val true (enc xs[n]))) (updF F' j f1) b := fun b hb z => by
      rcases inO1 b z with ⟨m, d, e, hm⟩ | z
      · refine dj' m _ d e b ?_ hm
        rcases List.mem_cons.mp hb with q | q
        · rw [q]; exact List.mem_cons_self
        · exact List.mem_cons_of_mem _ (List.mem_append_right _ q)
      · rcases List.mem_cons.mp hb with q | q
        · subst q; exact nda.1 (List.mem_append_left _ z)
        · exact ndb.2.2 b z b q rfl
    have there : ∀ b ∈ f1, H2 b ≠ none := fun b hb => r1.there hb
    have fr0 : Frm (InO G F) H (InO (G0.set j (.val true (enc xs[n]))) (updF F' j f1)) H2 := fun b o hb hnb => by
      obtain ⟨h1, h2⟩ := f' b o hb hnb
      refine ⟨h1, fun z => ?_⟩
      rcases inO1 b z with z | z
      · exact h2 z
      · exact hnb ⟨i, _, h, by rw [eF]; exact List.mem_cons_of_mem _ (sub b (List.mem_append_left _ z))⟩
    have there2 : ∀ b ∈ a :: f2, ∃ o, H2 b = some o := fun b hb => by
      rcases List.mem_cons.mp hb with q | q
      · rw [q]; exact ⟨_, hL'⟩
      · obtain ⟨o, ho, _⟩ := rs2.lsts b q
        exact ⟨o, ho⟩
    have after : ∀ {σ3 : St} {H3 : Hp} {F3 : Nat → List Addr}, Rel X.K G0 σ3 H3 F3 → Frm (InO (G0.set j (.val true (enc xs[n]))) (updF F' j f1)) H2 (InO G0 F3) H3 → H3 a = some (.lst vs) ∧ Reps X.K H3 f2 (vs.drop (n + 1)) ((xs.drop (n + 1)).map enc) ∧ (a :: f2).Nodup ∧ (∀ (m : Nat) mm d, G0[m]? = some (.val mm d) → ∀ b ∈ a :: f2, b ∉ F3 m) ∧ ∀ b ∈ f2, b ∈ fp0 := fun {σ3 H3 F3} R3 f3 => by
      refine ⟨(f3 a _ hL' (outO a List.mem_cons_self)).1, (Reps.frm f3 R2.lsts rs2 fun b hb => outO b (List.mem_cons_of_mem _ hb)).1, List.nodup_cons.mpr ⟨fun z => nda.1 (List.mem_append_right _ z), ndb.2.1⟩, fun m mm d e b hb z => ?_, fun b hb => sub b (List.mem_append_right _ hb)⟩
      cases mm with
      | true =>
        obtain ⟨o, ho⟩ := there2 b hb
        exact (f3 b o ho (outO b hb)).2 ⟨m, d, e, z⟩
      | false =>
        obtain ⟨u, _, ru⟩ := R3.rep m _ _ e
        rw [fl.at e ru] at z
        cases z
    refine ⟨xs[n], updF F' j f1, R2, hP1, ?_⟩
    show OutOk X W (G0.set j (.val true (enc xs[n]))) (updF F' j f1) H2 (fun _ : Unit => G0) (fun _ : Unit => G0) _ (oB xs[n])
    have he : (loopL (fun (_ : Unit) x => oB x) () xs : Out Unit B R) = stepO (oB xs[n]) (fun s' => loopL (fun (_ : Unit) x => oB x) s' (xs.drop (n + 1))) := hE
    have hP3 : stepP (oB xs[n]) (fun s' => loopP (fun (_ : Unit) x => pB x) (fun (_ : Unit) x => oB x) s' (xs.drop (n + 1))) := hP2
    generalize oB xs[n] = o at he hP3 ⊢
    cases o with
    | fall s' => exact fun σ3 H3 F3 R3 f3 => by obtain ⟨z1, z2, z3, z4, z5⟩ := after R3 f3; exact ⟨F3, f2, R3, fr0.trans f3, z1, z2, z3, z4, z5, hP3, he⟩
    | cnt s' => exact fun σ3 H3 F3 R3 f3 => by obtain ⟨z1, z2, z3, z4, z5⟩ := after R3 f3; exact ⟨F3, f2, R3, fr0.trans f3, z1, z2, z3, z4, z5, hP3, he⟩
    | brk s' =>
      rw [he] at k
      exact fun σ3 H3 F3 R3 f3 => k σ3 H3 F3 R3 (fr0.trans f3)
    | ret r =>
      rw [he] at k
      exact Ret.of k fr0
    | exc c =>
      rw [he] at k
      exact fun σ3 H3 u m3 f3 => k σ3 H3 u m3 (fr0.trans f3)
  · rintro σ' H' ⟨F', fr, R', f', _, _, _, _, _, _, hE⟩
    rw [List.drop_length] at hE
    rw [hE] at k
    exact k σ' H' F' R' f'
end
end BW

set_option Elab.async false
set_option linter.all false
set_option maxRecDepth 100000
set_option maxHeartbeats 4000000
/-! len(set(xs)) of unlike numbers; pairs whose second part is there, taken as such. -/
namespace BW
open PySem L2
section
variable {X : Cx} {G : Gam} {N : List Str} {sc : Scope} {e a b c : Expr} {es : List Expr} {p pa pb pr q : Prop} {pos ppos qpos p2 : Pos}
theorem ex_lenSet {xs : List Int} {kx : Kd} (C : Cxf X N sc) (hg : sc.names.lookup ("len" : Str) = some .globalImplicit) (hm : X.mg "len" = none) (hg2 : sc.names.lookup ("set" : Str) = some .globalImplicit) (hm2 : X.mg "set" = none) (ha : EX X G a pa xs kx) (c : Cmb pa (xs.length < 64 ∧ xs.Nodup) p)
    (na : starEach [a] X.env = (false, eval a X.env) :: starEach [] X.env := by rfl) : EX X G (.Call (.Name "len" ppos) [.Call (.Name "set" p2) [a] [] qpos] [] pos) p (xs.length : Int) .frs := by
  obtain ⟨ta, a1, a2⟩ := ha
  refine ⟨_, pe_lenSetI C.calm (C.gl hg) hm (C.gl hg2) hm2 a1 na, fun σ H F Q R hp k => ?_⟩
  obtain ⟨hpa, h1, h2⟩ := c.out hp
  refine a2 σ H F _ R hpa fun v H1 fp s1 r1 _ => ?_
  obtain ⟨l, vs, fp', rfl, hq, rs, _⟩ := r1.lst_inv
  obtain ⟨rfl, _⟩ := rs.ints
  exact ⟨l, xs, rfl, hq, h1, h2, k _ H1 [] s1 (.int _) KdOk.nil⟩
end
def prsOf (xs : List (Int × Option Int)) : List (Int × Int) := xs.map fun x => (x.1, x.2.getD 0)
theorem prs_enc : ∀ {xs : List (Int × Option Int)}, (∀ x ∈ xs, x.2.isSome = true) → enc (prsOf xs) = enc xs := fun {xs} h => by
  show D.lst ((xs.map fun x => (x.1, x.2.getD 0)).map enc) = D.lst (xs.map enc)
  rw [List.map_map]
  congr 1
  refine List.map_congr_left fun x hx => ?_
  have := h x hx
  obtain ⟨a, b⟩ := x
  cases b with
  | none => cases this
  | some b => rfl
section
variable {X : Cx} {G : Gam} {W : WX} {p : Prop} {S B R : Type} [Ret R] {g : S → Gam} {gb : B → Gam} {rest : List Stmt}
theorem sx_recast {xs : List (Int × Option Int)} {m : Bool} {pR : List (Int × Int) → Prop} {oR : List (Int × Int) → Out S B R} (i : Nat) (hR : ∀ ys : List (Int × Int), SX X W (G.set i (.val m (enc ys))) rest (pR ys) g gb (oR ys)) (c : Cmb (∀ x ∈ xs, x.2.isSome = true) (lt (prsOf xs) pR) p) (h : G[i]? = some (.val m (enc xs)) := by rfl) : SX X W G rest p g gb (lt (prsOf xs) oR) := by
  obtain ⟨ts, r1, r2⟩ := hR (prsOf xs)
  refine ⟨ts, r1, fun σ H F D Rl hp k => ?_⟩
  obtain ⟨h1, h2⟩ := c.out hp
  have hG : G.set i (.val m (enc (prsOf xs))) = G := by
    rw [prs_enc h1]
    refine List.ext_getElem? fun n => ?_
    by_cases hn : n = i
    · subst hn
      rw [List.getElem?_set_self (List.getElem?_eq_some_iff.mp h).1, h]
    · rw [List.getElem?_set_ne (Ne.symm hn)]
  rw [hG] at r2
  exact r2 σ H F D Rl h2 k
theorem sx_recastV {xs : List (Int × Option Int)} {m : Bool} {pR : List (Int × Int) → Prop} {rR : List (Int × Int) → R} (i : Nat) (hR : ∀ ys : List (Int × Int), SX X W (G.set i (.val m (enc ys))) rest (pR ys) g gb (.ret (rR ys) : Out S B R)) (c : Cmb (∀ x ∈ xs, x.2.isSome = true) (lt (prsOf xs) pR) p) (h : G[i]? = some (.val m (enc xs)) := by rfl) : SX X W G rest p g gb (.ret (lt (prsOf xs) rR) : Out S B R) := sx_recast (oR := fun y => (.ret (rR y) : Out S B R)) i hR c h
end
end BW

set_option Elab.async false
set_option linter.all false
set_option maxRecDepth 100000
set_option maxHeartbeats 4000000
/-! Values of any kind: tuples of any length, ==, defs that give what may be in other hands. -/
namespace BW
open PySem L2
def isT : D → Bool
  | .tup _ => true
  | _ => false
def dTup : D → List D
  | .tup xs => xs
  | _ => []
theorem isT_eq {d : D} (h : isT d = true) : d = .tup (dTup d) := by
  cases d <;> first | rfl | cases h
def eqD (x y : D) : Bool := PyData.eqv (pyd x) (pyd y)
def okD' (x : D) : Bool := SeqAt.shaped (pyd x)
def toE (d : D) : T3 Int Int Int := ⟨(match (dTup d).getD 0 .non with | .int i => i | _ => 0), (match (dTup d).getD 1 .non with | .int i => i | _ => 0), (match (dTup d).getD 2 .non with | .int i => i | _ => 0)⟩
theorem map_encD (xs : List D) : xs.map (enc : D → D) = xs := List.map_id xs
/-- what is handed back, not known to be new -/
structure AnyR (t : Type) where
  x : t
instance {R : Type} [Enc R] : Ret (AnyR R) := ⟨fun K O H rt r => ∀ v H' fp, Rep K H' fp v (enc r.x) → Frm O H (fun _ => False) H' → rt v H', fun h f v H2 fp r f2 => h v H2 fp r (f.trans f2)⟩
def spA (K : PySem.W.Frag) {A R : Type} [Enc R] (encs : A → List D) (pre : A → Prop) (val : A → AnyR R) : Sp := fun vs H Q _ =>
  ∃ (x : A) (fp : List Addr), Reps K H fp vs (encs x) ∧ pre x ∧ ∀ v H' fp', Same H H' → Rep K H' fp' v (enc (val x).x) → Q v H'
section
variable {P : Program} {w : World} {K : PySem.W.Frag} {mg : Str → Option Value} {base : Heap} {x qual : Str} {params : Arguments} {body : List Stmt} {sc : Scope} {f : Addr} {fd : FuncData} {N ps : List Str}
theorem fn_okA {k : Nat} {A R : Type} [Enc R] {encs : A → List D} {pre : A → Prop} {val : A → AnyR R} (F : FunD K x qual params body sc [] [] f fd) (S : FnScope N ps sc) (hlen : ∀ a, (encs a).length = ps.length)
    (hbody : ∀ (cdv : Value) (A' : Around) (outer : List PySem.Env) (s : Shared) (H : Hp) (E : XK), Room k (A'.deeper (PyProof.Rows.envOfC qual sc s.heap.objs.size f cdv)) → ∀ a : A, SX (cxOf (L2.CX P w) P w K mg base N qual sc f cdv A' outer s H E) (WO E) (g0 N.length (encs a)) body (pre a) noG noG (.ret (val a) : Out Empty Empty (AnyR R))) :
    FnOk P w K mg base (L2.CX P w) (k + 1) f fd ps (spA K encs pre val) := by
  refine F.ok S (fun vs H Q E ⟨a, fp, r, _⟩ => by rw [r.length, hlen]) fun cdv A' outer s H vs Q E hr ⟨a, fp, r, hp, hk⟩ => ?_
  obtain ⟨ts, h1, h2⟩ := hbody cdv A' outer s H E hr a
  obtain ⟨F0, R0, n0⟩ := rel0 N r
  exact ⟨ts, h1, h2 _ H F0 _ R0 hp fun v H' fp' r' f => hk v H' fp' (fun b o e => (f b o e (n0 b)).1) r'⟩
theorem calA_mk {k : Nat} {A R : Type} [Enc R] {encs : A → List D} {pre pre' : A → Prop} {val val' : A → AnyR R} (F : FunD K x qual params body sc [] [] f fd) (hm : mg x = some (.ref f)) (hb : Binds K fd ps [])
    (h : FnOk P w K mg base (L2.CX P w) k f fd ps (spA K encs pre val)) (hi : ∀ a, pre' a → pre a ∧ val a = val' a) : Cal P w K mg base x k ps (spA K encs pre' val') :=
  ⟨f, fd, hm, F.kp, hb, h.imp fun vs H Q E ⟨a, fp, r, hp, k⟩ => by
    obtain ⟨h1, h2⟩ := hi a hp
    exact ⟨a, fp, r, h1, by rw [h2]; exact k⟩⟩
end
section
variable {X : Cx} {G : Gam} {N : List Str} {sc : Scope} {e a b c : Expr} {es : List Expr} {p pa pb pr q : Prop} {pos ppos : Pos}
theorem ex_callA {x : Str} {k : Nat} {ps : List Str} {A R : Type} [Enc R] {encs : A → List D} {pre : A → Prop} {val : A → AnyR R} (C : Cxf X N sc) (F : Cal X.prog X.w X.K X.mg X.base x k ps (spA X.K encs pre val)) (hr : Room k X.A) (hg : sc.names.lookup x = some .globalImplicit)
    (y : A) {kk : Kd} (ha : AX X G (e :: es) pa (encs y) kk) (c1 : Cmb pa (pre y) p) (hdb : (x == ("__debug__" : Str)) = false := by decide) (he : starEach (e :: es) X.env = (false, eval e X.env) :: starEach es X.env := by rfl) (hpl : (backTo pos (starEach es X.env)).any (·.1) = false := by rfl) :
    EX X G (.Call (.Name x ppos) (e :: es) [] pos) p (val y).x .any := by
  obtain ⟨ta, a1, a2⟩ := ha
  obtain ⟨f, fd, hm, hk, hb, F⟩ := F.ex
  refine ⟨_, pe_call F hr (C.gl hg) hm hk hb .nil passL a1 hdb he hpl, fun σ H F Q R hp q => ?_⟩
  obtain ⟨hpa, hpr⟩ := c1.out hp
  refine a2 σ H F _ R hpa fun vs H1 fp s1 r1 _ => ?_
  rw [List.append_nil]
  exact ⟨y, fp, r1, hpr, fun v H' fp' s r => q v H' fp' (s1.trans s) r trivial⟩
theorem cm_eqD {x y : D} {kx ky : Kd} (hu : X.A.units + 64 < cLine) (ha : EX X G a pa x kx) (hb : EX X G b pb y ky) {p1 : Prop} (c1 : Cmb pa pb p1) (c2 : Cmb p1 (okD' x = true ∧ okD' y = true) p) : CMP X G (.Compare a [.Eq] [b] pos) p (eqD x y) :=
  cm2 (op_eqD hu) ha hb (fun hg H fv fw v w Q rv rw' k => ⟨_, _, rv.dp hg.1, rw'.dp hg.2, hg.1, hg.2, k⟩) c1 c2
theorem cm_neD {x y : D} {kx ky : Kd} (hu : X.A.units + 64 < cLine) (ha : EX X G a pa x kx) (hb : EX X G b pb y ky) {p1 : Prop} (c1 : Cmb pa pb p1) (c2 : Cmb p1 (okD' x = true ∧ okD' y = true) p) : CMP X G (.Compare a [.NotEq] [b] pos) p (!eqD x y) :=
  cm2 (op_neD hu) ha hb (fun hg H fv fw v w Q rv rw' k => ⟨_, _, rv.dp hg.1, rw'.dp hg.2, hg.1, hg.2, k⟩) c1 c2
/-- an item of a new list is new -/
theorem ex_ixLF {t : Type} [Enc t] {xs : List t} {i : Int} {ky : Kd} (d : t) (ha : EX X G a pa xs .frs) (hb : EX X G b pb i ky) {p1 : Prop} (c1 : Cmb pa pb p1) (c2 : Cmb p1 (IxOk xs.length i) p) (hs : PlainIx b := by exact fun _ _ => rfl) :
    EX X G (.Subscript a b pos) p (pyGet d xs i) .frs := by
  obtain ⟨ta, a1, a2⟩ := ha
  obtain ⟨tb, b1, b2⟩ := hb
  refine ⟨_, pe_ix L2.ix_list a1 b1 hs, fun σ H F Q R hp k => ?_⟩
  obtain ⟨hp1, hpr⟩ := c2.out hp
  obtain ⟨hpa, hpb⟩ := c1.out hp1
  refine a2 σ H F _ R hpa fun v H1 fp s1 r1 k1 => ?_
  refine b2 σ H1 F _ (R.same s1) hpb fun w H2 fp2 s2 r2 _ => ?_
  obtain ⟨l, vs, fp', rfl, hq, rs, eF⟩ := (r1.same s2).lst_inv'
  obtain ⟨rfl, _⟩ := r2.int_inv
  have hl := rs.length
  rw [List.length_map] at hl
  obtain ⟨j, e, hj⟩ := ixN_some hpr
  have e2 : (xs.map enc)[j]? = some (enc (pyGet d xs i)) := by
    have q : pyGet d xs i = xs[j] := by unfold pyGet; rw [e]; simp [hj]
    rw [q]; simp [hj]
  obtain ⟨u, fu, e3, ru, su, nu⟩ := rs.get e2
  refine ⟨l, vs, i, u, rfl, rfl, SqL.of hq, ?_, ?_⟩
  · unfold atI; rw [hl, e]; exact e3
  · subst eF
    exact k u H2 fu (s1.trans s2) ru ⟨nu (List.nodup_cons.mp k1.1).2, fun a ha => k1.2 a (List.mem_cons_of_mem _ (su a ha))⟩
/-- tuple(xs) -/
theorem ex_tupleD {xs : List D} (C : Cxf X N sc) (hg : sc.names.lookup ("tuple" : Str) = some .globalImplicit) (hm : X.mg "tuple" = none) (ha : EX X G a p xs .shr) (na : starEach [a] X.env = (false, eval a X.env) :: starEach [] X.env := by rfl) : EX X G (.Call (.Name "tuple" ppos) [a] [] pos) p (D.tup xs) .shr := by
  obtain ⟨ta, a1, a2⟩ := ha
  refine ⟨_, pe_tupleOf (C.gl hg) hm a1 na, fun σ H F Q R hp k => ?_⟩
  refine a2 σ H F _ R hp fun v H1 fp s1 r1 k1 => ?_
  obtain ⟨l, vs, fp', rfl, hq, rs, sub⟩ := r1.lst_inv
  rw [map_encD] at rs
  exact .inl ⟨l, vs, rfl, hq, fun q hn => k _ _ fp' (s1.trans (Same.upd hn)) (.tup (.inl (.inl upd_same)) (rs.same (Same.upd hn))) fun a ha => k1 a (sub a ha)⟩
/-- t + u -/
theorem ex_catD {x y : D} (ha : EX X G a pa x .shr) (hb : EX X G b pb y .shr) {p1 : Prop} (c1 : Cmb pa pb p1) (c2 : Cmb p1 (isT x = true ∧ isT y = true ∧ (dTup x).length + (dTup y).length ≤ sizeLine) p) : EX X G (.BinOp a .Add b pos) p (D.tup (dTup x ++ dTup y)) .shr := by
  obtain ⟨ta, a1, a2⟩ := ha
  obtain ⟨tb, b1, b2⟩ := hb
  refine ⟨_, pe_op op_catA a1 b1, fun σ H F Q R hp q => ?_⟩
  obtain ⟨hp1, hx, hy, hlen⟩ := c2.out hp
  obtain ⟨hpa, hpb⟩ := c1.out hp1
  refine a2 σ H F _ R hpa fun v H1 fp s1 r1 k1 => ?_
  refine b2 σ H1 F _ (R.same s1) hpb fun w H2 fp2 s2 r2 k2 => ?_
  have r1' : Rep X.K H2 fp v (D.tup (dTup x)) := by
    have := r1.same s2
    rw [show (enc x : D) = x from rfl, isT_eq hx] at this
    exact this
  have r2' : Rep X.K H2 fp2 w (D.tup (dTup y)) := by
    have := r2
    rw [show (enc y : D) = y from rfl, isT_eq hy] at this
    exact this
  obtain ⟨l, vs, rfl, h1, rs1⟩ := r1'.tup_inv
  obtain ⟨m, ws, rfl, h2, rs2⟩ := r2'.tup_inv
  have l1 := rs1.length
  have l2 := rs2.length
  have kk2 : ∀ a ∈ fp2, H a = none ∨ InS G F a := fun a ha => (k2 a ha).imp s1.free id
  have rr := rs1.append rs2
  refine ⟨l, m, vs, ws, rfl, rfl, h1, h2, by omega, fun e => ?_, fun _ e => ?_, fun _ _ n hn => ?_⟩
  · subst e
    have : dTup x = [] := List.length_eq_zero_iff.mp (by rw [← l1]; rfl)
    have r3 : Rep X.K H2 fp2 (.ref m) (D.tup (dTup x ++ dTup y)) := by rw [this, List.nil_append]; exact r2'
    exact q _ _ fp2 (s1.trans s2) r3 kk2
  · subst e
    have : dTup y = [] := List.length_eq_zero_iff.mp (by rw [← l2]; rfl)
    have r3 : Rep X.K H2 fp (.ref l) (D.tup (dTup x ++ dTup y)) := by rw [this, List.append_nil]; exact r1'
    exact q _ _ fp (s1.trans s2) r3 k1
  · exact q _ _ (fp ++ fp2) (s1.trans (s2.trans (Same.upd hn))) (.tup (.inl (.inl upd_same)) (rr.same (Same.upd hn))) fun a ha => (List.mem_append.mp ha).elim (k1 a) (kk2 a)
/-- t[lo:hi] -/
theorem ex_sliceD {x : D} {l h : Option Expr} {lo hi : Option Int} {pl ph : Prop} {p1 p3 : Prop} {p2 : Pos} (ha : EX X G a pa x .shr) (hl : OX X G l pl lo) (hh : OX X G h ph hi) (c1 : Cmb pa pl p1) (c2 : Cmb p1 ph p3) (c3 : Cmb p3 (isT x = true) p) :
    EX X G (.Subscript a (.Slice l h none p2) pos) p (D.tup (pySlice (dTup x) lo hi)) .shr := by
  obtain ⟨ta, a1, a2⟩ := ha
  obtain ⟨tl, l1, l2⟩ := hl
  obtain ⟨th, h1, h2⟩ := hh
  refine ⟨_, pe_slice sl_tupA a1 l1 h1, fun σ H F Q R hp k => ?_⟩
  obtain ⟨hp3, hx⟩ := c3.out hp
  obtain ⟨hp1, hph⟩ := c2.out hp3
  obtain ⟨hpa, hpl⟩ := c1.out hp1
  refine a2 σ H F _ R hpa fun v H1 fp s1 r1 k1 => ?_
  refine l2 σ H1 F _ (R.same s1) hpl fun H2 s2 => h2 σ H2 F _ ((R.same s1).same s2) hph fun H3 s3 => ?_
  have r1' : Rep X.K H3 fp v (D.tup (dTup x)) := by
    have := (r1.same s2).same s3
    rw [show (enc x : D) = x from rfl, isT_eq hx] at this
    exact this
  obtain ⟨l, vs, rfl, hq, rs⟩ := r1'.tup_inv
  have hl := rs.length
  have e1 : cutV vs lo hi = (vs.drop (HT.sIx (dTup x).length 0 lo)).take (HT.sIx (dTup x).length (dTup x).length hi - HT.sIx (dTup x).length 0 lo) := by unfold cutV; rw [hl]
  refine ⟨l, vs, rfl, hq, fun ⟨w1, w2⟩ => ?_, fun _ n hn => ?_⟩
  · rw [hl] at w1 w2
    have : pySlice (dTup x) lo hi = dTup x := by
      unfold pySlice
      rw [w1, w2, List.drop_zero, Nat.sub_zero, List.take_length]
    have r3 : Rep X.K H3 fp (.ref l) (D.tup (pySlice (dTup x) lo hi)) := by rw [this]; exact r1'
    exact k _ _ fp (s1.trans (s2.trans s3)) r3 k1
  · obtain ⟨f1, r2, u1, _⟩ := rs.drop (HT.sIx (dTup x).length 0 lo)
    obtain ⟨f2, r3, u2, _⟩ := r2.take (HT.sIx (dTup x).length (dTup x).length hi - HT.sIx (dTup x).length 0 lo)
    refine k _ _ f2 (s1.trans (s2.trans (s3.trans (Same.upd hn)))) (.tup (.inl (.inl upd_same)) (by rw [e1]; exact r3.same (Same.upd hn))) fun a ha => k1 a (u1 a (u2 a ha))
theorem ex_lenD (C : Cxf X N sc) (hg : sc.names.lookup ("len" : Str) = some .globalImplicit) (hm : X.mg "len" = none) {x : D} {k : Kd} (ha : EX X G e pa x k) (c : Cmb pa (isT x = true) p) (hs : starEach [e] X.env = (false, eval e X.env) :: starEach [] X.env := by rfl) :
    EX X G (.Call (.Name "len" ppos) [e] [] pos) p ((dTup x).length : Int) .frs :=
  ex_cb (pr := isT x = true) C call_len_seq hg hm PySem.boot_len (ax1 ha hs) (fun hx H fp vs Q r k => by
    obtain ⟨v, rfl, r1⟩ := r.one
    obtain ⟨l, ws, rfl, hq, rs⟩ := Rep.tup_inv (show Rep X.K H _ v (.tup (dTup x)) from isT_eq hx ▸ r1)
    refine ⟨l, ws, rfl, .inr hq, ?_⟩
    rw [rs.length]
    exact k _ H [] (Same.refl _) (.int _) List.nodup_nil (fun _ h => nomatch h)) c (by decide) (by decide) hs rfl
/-- t[i] -/
theorem ex_ixD {x : D} {i : Int} {kx ky : Kd} (ha : EX X G a pa x kx) (hb : EX X G b pb i ky) {p1 : Prop} (c1 : Cmb pa pb p1) (c2 : Cmb p1 (isT x = true ∧ IxOk (dTup x).length i) p) (hs : PlainIx b := by exact fun _ _ => rfl) :
    EX X G (.Subscript a b pos) p (pyGet D.non (dTup x) i) kx := by
  obtain ⟨ta, a1, a2⟩ := ha
  obtain ⟨tb, b1, b2⟩ := hb
  refine ⟨_, pe_ix ix_tup a1 b1 hs, fun σ H F Q R hp k => ?_⟩
  obtain ⟨hp1, hx, hpr⟩ := c2.out hp
  obtain ⟨hpa, hpb⟩ := c1.out hp1
  refine a2 σ H F _ R hpa fun v H1 fp s1 r1 k1 => ?_
  refine b2 σ H1 F _ (R.same s1) hpb fun w H2 fp2 s2 r2 _ => ?_
  have r1' : Rep X.K H2 fp v (D.tup (dTup x)) := by
    have := r1.same s2
    rw [show (enc x : D) = x from rfl, isT_eq hx] at this
    exact this
  obtain ⟨l, vs, rfl, hq, rs⟩ := r1'.tup_inv
  obtain ⟨rfl, _⟩ := r2.int_inv
  have hl := rs.length
  obtain ⟨j, e, hj⟩ := ixN_some hpr
  have e2 : (dTup x)[j]? = some (pyGet D.non (dTup x) i) := by
    have q : pyGet D.non (dTup x) i = (dTup x)[j] := by unfold pyGet; rw [e]; simp [hj]
    rw [q]; simp [hj]
  obtain ⟨u, fu, e3, ru, su, nu⟩ := rs.get e2
  refine ⟨l, vs, i, u, rfl, rfl, hq, ?_, ?_⟩
  · unfold atI; rw [hl, e]; exact e3
  · refine k u H2 fu (s1.trans s2) ru ?_
    cases kx with
    | any => trivial
    | shr => exact fun a ha => k1 a (su a ha)
    | frs => exact ⟨nu k1.1, fun a ha => k1.2 a (su a ha)⟩
/-- the items of a tuple -/
theorem ix_tupD {x : D} {tg : Expr} (ha : EX X G a pa x .shr) (c : Cmb pa (isT x = true) p) : IX X G tg a p (dTup x) := by
  obtain ⟨ta, a1, a2⟩ := ha
  refine ⟨_, pi_tup a1, fun σ H F R Rl hp k => ?_⟩
  obtain ⟨hpa, hx⟩ := c.out hp
  refine a2 σ H F _ Rl hpa fun v H1 fp s1 r1 k1 => ?_
  have r1' : Rep X.K H1 fp v (D.tup (dTup x)) := by
    have := r1
    rw [show (enc x : D) = x from rfl, isT_eq hx] at this
    exact this
  obtain ⟨l, vs, rfl, hq, rs⟩ := r1'.tup_inv
  refine ⟨l, rfl, ⟨_, hq⟩, k _ H1 fp (fun H => SqT X.K H l vs ∧ Reps X.K H fp vs (dTup x)) s1 k1 (fun a ha => r1.there ha) (fun O H O' H' f lo n g => ?_) ⟨hq, rs⟩ ?_⟩
  · obtain ⟨q1, q2⟩ := Reps.frm f lo g.2 n
    exact ⟨⟨SqT.frm f lo g.1, q1⟩, q2⟩
  · have wk := (walk_tup (K := X.K) (a := l) (xs := vs))
    rw [rs.length] at wk
    refine wk.mono (fun H h => h.1) fun i H x' H' hi g y => ?_
    obtain ⟨e1, e2⟩ := y
    subst e1
    have hd : (dTup x)[i]? = some (dTup x)[i] := List.getElem?_eq_getElem hi
    obtain ⟨u, fu, e3, ru, su, _⟩ := g.2.get hd
    rw [e2] at e3
    obtain rfl := Option.some.inj e3
    exact ⟨Same.refl _, fu, (dTup x)[i], hd, ru, fun a ha => su a ha⟩
end
section
variable {X : Cx} {G : Gam} {N : List Str} {sc : Scope} {e a b c : Expr} {es : List Expr} {p pa pb pr q : Prop} {pos ppos : Pos}
variable {W : WX} {S B R : Type} [Ret R] {g : S → Gam} {gb : B → Gam} {rest : List Stmt}
theorem sx_retA {R' : Type} [Enc R'] {x : R'} {k : Kd} (h : EX X G e p x k) : SX X W G (.Return (some e) pos :: rest) p g gb (.ret (AnyR.mk x) : Out S B (AnyR R')) := by
  obtain ⟨te, h1, h2⟩ := h
  exact ⟨_, pss_cons (ps_ret h1) pss_never, fun σ H F D Rl hp k => h2 σ H F _ Rl hp fun v H' fp s r _ => k v H' fp r fun b o hb _ => ⟨s b o hb, id⟩⟩
def noOwn (G : Gam) : Bool := G.all fun s => match s with | .val true _ => false | _ => true
theorem noOwn_O {F : Nat → List Addr} (h : noOwn G = true) (b : Addr) : ¬ InO G F b := fun ⟨i, d, e, _⟩ => by
  have := List.all_eq_true.mp h _ (List.mem_of_getElem? e)
  cases this
/-- any value into a slot, where nothing is owned -/
theorem sx_setAny {t : Type} [Enc t] {x : t} {y : Str} {k : Kd} {pR : t → Prop} {oR : t → Out S B R} (C : Cx0 X N sc) (i : Nat) (V : Vs X N sc i y) (he : EX X G e pa x k) (hR : ∀ x : t, SX X W (G.set i (.val false (enc x))) rest (pR x) g gb (oR x)) (c : Cmb pa (lt x pR) p) (no : noOwn G = true := by rfl) (hl : Nat.blt i G.length = true := by rfl)
    (hs : swapsWith e (some (.Name y ppos)) pos.line X.env = pure false := by rfl) : SX X W G (.Assign [.Name y ppos] e pos :: rest) p g gb (lt x oR) := by
  obtain ⟨te, h1, h2⟩ := he
  obtain ⟨ts, r1, r2⟩ := hR x
  refine ⟨_, pss_cons (ps_set (by rw [C.hN]; exact C.nd) (by rw [C.hN]; exact V.ix) (by rw [C.hs]; exact V.loc) h1 hs (by rw [C.hs]; exact V.fn)) r1, fun σ H F D Rl hp k => ?_⟩
  obtain ⟨hpa, hpR⟩ := c.out hp
  refine h2 σ H F _ Rl hpa fun v H1 fp s rv kd => ?_
  obtain ⟨a1, a2⟩ := Rl.put (i := i) (m := false) s rv (blt_lt hl) fun b _ => noOwn_O no b
  exact r2 _ _ _ D a1 hpR (k.of a2)
theorem sx_recastG {t u : Type} [Enc t] [Enc u] {x : t} {m : Bool} {pR : u → Prop} {oR : u → Out S B R} (y : u) (i : Nat) (hR : ∀ z : u, SX X W (G.set i (.val m (enc z))) rest (pR z) g gb (oR z)) (c : Cmb (enc x = enc y) (lt y pR) p) (h : G[i]? = some (.val m (enc x)) := by rfl) : SX X W G rest p g gb (lt y oR) := by
  obtain ⟨ts, r1, r2⟩ := hR y
  refine ⟨ts, r1, fun σ H F D Rl hp k => ?_⟩
  obtain ⟨h1, h2⟩ := c.out hp
  have hG : G.set i (.val m (enc y)) = G := by
    rw [← h1]
    refine List.ext_getElem? fun n => ?_
    by_cases hn : n = i
    · subst hn
      rw [List.getElem?_set_self (List.getElem?_eq_some_iff.mp h).1, h]
    · rw [List.getElem?_set_ne (Ne.symm hn)]
  rw [hG] at r2
  exact r2 σ H F D Rl h2 k
theorem sx_recastGV {t u : Type} [Enc t] [Enc u] {x : t} {m : Bool} {pR : u → Prop} {rR : u → R} (y : u) (i : Nat) (hR : ∀ z : u, SX X W (G.set i (.val m (enc z))) rest (pR z) g gb (.ret (rR z) : Out S B R)) (c : Cmb (enc x = enc y) (lt y pR) p) (h : G[i]? = some (.val m (enc x)) := by rfl) : SX X W G rest p g gb (.ret (lt y rR) : Out S B R) := sx_recastG (oR := fun z => (.ret (rR z) : Out S B R)) y i hR c h
/-- xs[i] = e, the items may hold lists -/
theorem sx_setitemD {t : Type} [Enc t] {xs : List t} {x : t} {ix : Int} {y : Str} {npos spos : Pos} {ky : Kd} {pR : List t → Prop} {oR : List t → Out S B R} {p1 p2 : Prop} (C : Cxf X N sc) (i : Nat) (V : Vr N sc i y) (he : EX X G e pa x .frs) (hi : EX X G a pb ix ky)
    (hR : ∀ zs : List t, SX X W (G.set i (.val true (enc zs))) rest (pR zs) g gb (oR zs)) (c1 : Cmb pa pb p1) (c2 : Cmb p1 (IxOk xs.length ix) p2) (c3 : Cmb p2 (lt (pySet xs ix x) pR) p) (h : G[i]? = some (.val true (enc xs)) := by rfl)
    (hs : swapsWithSole [.Subscript (.Name y npos) a spos] e pos.line X.env = pure false := by rfl) (hw : swappedStores [.Subscript (.Name y npos) a spos] e X.env = pure none := by rfl) (hh : (assignEach [.Subscript (.Name y npos) a spos] X.env).map (·.2) = [assign (.Subscript (.Name y npos) a spos) X.env] := by rfl)
    (hsub : ∀ v, assign (.Subscript (.Name y npos) a spos) X.env v = (do let ov ← holding [v] (eval (.Name y npos) X.env); let iv ← holding [v, ov] (eval a X.env); standAt spos; holding [v, ov, iv] (setItem ov iv v); release [v, ov, iv] []) := by intro _; rfl) :
    SX X W G (.Assign [.Subscript (.Name y npos) a spos] e pos :: rest) p g gb (lt (pySet xs ix x) oR) := by
  obtain ⟨te, h1, h2⟩ := he
  obtain ⟨ti, i1, i2⟩ := hi
  obtain ⟨ts, r1, r2⟩ := hR (pySet xs ix x)
  refine ⟨_, pss_cons (ps_asg h1 (pg_sub (pe_slot C.toCx0 V) i1 set_list hsub) hs hw hh) r1, fun σ H F D Rl hp k => ?_⟩
  obtain ⟨hp2, hpR⟩ := c3.out hp
  obtain ⟨hp1, hix⟩ := c2.out hp2
  obtain ⟨hpa, hpb⟩ := c1.out hp1
  refine h2 σ H F _ Rl hpa fun w H1 fp s1 r1' kd => ?_
  have Rl1 := Rl.same s1
  obtain ⟨v0, ev0, rv0⟩ := Rl.rep i _ _ h
  obtain ⟨v, ev, rv⟩ := Rl1.rep i _ _ h
  refine ⟨v, ev, i2 σ H1 F _ Rl1 hpb fun u H2 fp2 s2 r2' kd2 => ?_⟩
  obtain ⟨l, vs, fpi, rfl, hl, rs, eF⟩ := (rv.same s2).lst_inv'
  obtain ⟨rfl, _⟩ := r2'.int_inv
  obtain ⟨j, ej, hj⟩ := ixN_some hix
  have e1 := rs.length
  rw [List.length_map] at e1
  refine ⟨l, vs, ix, j, rfl, rfl, hl, by rw [e1]; exact ej, ?_⟩
  have es : (pySet xs ix x).map enc = (xs.map enc).set j (enc x) := by unfold pySet; rw [ej]; exact List.map_set
  have nd := Rl.nd i _ h
  rw [eF] at nd
  have nd2 := List.nodup_cons.mp nd
  have un : ∀ b ∈ fp, b ∉ l :: fpi := fun b hb z => by
    have := rv0.there (a := b) (by rw [eF]; exact z)
    exact this (kd.2 b hb)
  have hx : (xs.map enc)[j]? = some (enc (xs[j]'hj)) := by simp [hj]
  obtain ⟨fa, fj, fb, va, v', vb, da, db, q1, q2, q3, q4, q5, A1, A2, A3⟩ := Reps.split j rs hx
  have rw2 : Reps X.K H2 (fa ++ (fp ++ fb)) (vs.set j w) ((xs.map enc).set j (enc x)) := by
    have e5 : vs.set j w = va ++ w :: vb := by rw [q2, ← q5]; simp
    have e7 : ∀ (ds : List BW.D) d0, ds = da ++ d0 :: db → ds.set j (enc x) = da ++ enc x :: db := by
      intro ds d0 h
      rw [h, ← q4]; simp
    have e6 : (xs.map enc).set j (enc x) = da ++ enc x :: db := e7 _ _ q3
    rw [e5, e6]
    exact A1.append (.cons (r1'.same s2) A3)
  have mem : ∀ b, b ∈ fa ++ (fp ++ fb) → b ∈ fp ∨ b ∈ fpi := fun b hb => by
    rw [q1]
    simp only [List.mem_append] at hb ⊢
    rcases hb with z | z | z
    · exact .inr (.inl z)
    · exact .inl z
    · exact .inr (.inr (.inr z))
  rw [q1] at nd2
  obtain ⟨n1, n2, n3⟩ := List.nodup_append.mp nd2.2
  obtain ⟨n4, n5, n6⟩ := List.nodup_append.mp n2
  have nn : (l :: (fa ++ (fp ++ fb))).Nodup := by
    refine List.nodup_cons.mpr ⟨fun z => ?_, List.nodup_append.mpr ⟨n1, List.nodup_append.mpr ⟨kd.1, n5, fun b hb c hc e => ?_⟩, fun b hb c hc e => ?_⟩⟩
    · rcases mem l z with z | z
      · exact un l z List.mem_cons_self
      · rw [q1] at z; exact nd2.1 z
    · subst e
      exact un b hb (List.mem_cons_of_mem _ (by rw [q1]; exact List.mem_append_right _ (List.mem_append_right _ hc)))
    · subst e
      rcases List.mem_append.mp hc with y | y
      · exact un b y (List.mem_cons_of_mem _ (by rw [q1]; exact List.mem_append_left _ hb))
      · exact n3 b hb b (List.mem_append_right _ y) rfl
  obtain ⟨t1, t2⟩ := own_upd (fp' := fa ++ (fp ++ fb)) (vs' := vs.set j w) (ds' := (pySet xs ix x).map enc) Rl (s1.trans s2) h ev eF hl (by rw [es]; exact rw2) nn fun b hb => (mem b hb).symm.imp id (kd.2 b)
  exact r2 _ _ _ D t1 hpR (k.of t2)
theorem sx_setitemDF {t : Type} [Enc t] {xs : List t} {x : t} {ix : Int} {y : Str} {npos spos : Pos} {ky : Kd} {pR : List t → Prop} {rR : List t → S} {p1 p2 : Prop} (C : Cxf X N sc) (i : Nat) (V : Vr N sc i y) (he : EX X G e pa x .frs) (hi : EX X G a pb ix ky)
    (hR : ∀ zs : List t, SX X W (G.set i (.val true (enc zs))) rest (pR zs) g gb (.fall (rR zs) : Out S B R)) (c1 : Cmb pa pb p1) (c2 : Cmb p1 (IxOk xs.length ix) p2) (c3 : Cmb p2 (lt (pySet xs ix x) pR) p) (h : G[i]? = some (.val true (enc xs)) := by rfl)
    (hs : swapsWithSole [.Subscript (.Name y npos) a spos] e pos.line X.env = pure false := by rfl) (hw : swappedStores [.Subscript (.Name y npos) a spos] e X.env = pure none := by rfl) (hh : (assignEach [.Subscript (.Name y npos) a spos] X.env).map (·.2) = [assign (.Subscript (.Name y npos) a spos) X.env] := by rfl)
    (hsub : ∀ v, assign (.Subscript (.Name y npos) a spos) X.env v = (do let ov ← holding [v] (eval (.Name y npos) X.env); let iv ← holding [v, ov] (eval a X.env); standAt spos; holding [v, ov, iv] (setItem ov iv v); release [v, ov, iv] []) := by intro _; rfl) :
    SX X W G (.Assign [.Subscript (.Name y npos) a spos] e pos :: rest) p g gb (.fall (lt (pySet xs ix x) rR) : Out S B R) := sx_setitemD (oR := fun z => (.fall (rR z) : Out S B R)) C i V he hi hR c1 c2 c3 h hs hw hh hsub
end
section
variable {X : Cx} {G : Gam} {N : List Str} {sc : Scope} {e a b c : Expr} {es : List Expr} {p pa pb pr q : Prop} {pos ppos : Pos}
variable {W : WX} {S B R : Type} [Ret R] {g : S → Gam} {gb : B → Gam} {rest : List Stmt}
theorem sx_setAnyF {t : Type} [Enc t] {x : t} {y : Str} {k : Kd} {pR : t → Prop} {rR : t → S} (C : Cx0 X N sc) (i : Nat) (V : Vs X N sc i y) (he : EX X G e pa x k) (hR : ∀ x : t, SX X W (G.set i (.val false (enc x))) rest (pR x) g gb (.fall (rR x) : Out S B R)) (c : Cmb pa (lt x pR) p) (no : noOwn G = true := by rfl) (hl : Nat.blt i G.length = true := by rfl)
    (hs : swapsWith e (some (.Name y ppos)) pos.line X.env = pure false := by rfl) : SX X W G (.Assign [.Name y ppos] e pos :: rest) p g gb (.fall (lt x rR) : Out S B R) := sx_setAny (oR := fun x => (.fall (rR x) : Out S B R)) C i V he hR c no hl hs
theorem sx_setAnyV {t : Type} [Enc t] {x : t} {y : Str} {k : Kd} {pR : t → Prop} {rR : t → R} (C : Cx0 X N sc) (i : Nat) (V : Vs X N sc i y) (he : EX X G e pa x k) (hR : ∀ x : t, SX X W (G.set i (.val false (enc x))) rest (pR x) g gb (.ret (rR x) : Out S B R)) (c : Cmb pa (lt x pR) p) (no : noOwn G = true := by rfl) (hl : Nat.blt i G.length = true := by rfl)
    (hs : swapsWith e (some (.Name y ppos)) pos.line X.env = pure false := by rfl) : SX X W G (.Assign [.Name y ppos] e pos :: rest) p g gb (.ret (lt x rR) : Out S B R) := sx_setAny (oR := fun x => (.ret (rR x) : Out S B R)) C i V he hR c no hl hs
def isI : D → Bool
  | .int _ => true
  | _ => false
def dI : D → Int
  | .int i => i
  | _ => 0
def isS : D → Bool
  | .str _ => true
  | _ => false
def dS : D → Str
  | .str x => x
  | _ => Str.ofString ""
theorem EX.asI {x : D} {k : Kd} (h : EX X G e pa x k) (c : Cmb pa (isI x = true) p) : EX X G e p (dI x) .frs := by
  obtain ⟨te, h1, h2⟩ := h
  refine EX.flt (k := k) ⟨te, h1, fun σ H F Q R hp q => ?_⟩
  obtain ⟨hpa, hs⟩ := c.out hp
  refine h2 σ H F Q R hpa fun v H' fp s r kd => q v H' fp s ?_ kd
  cases x with
  | int i => exact r
  | _ => cases hs
theorem EX.asS {x : D} {k : Kd} (h : EX X G e pa x k) (c : Cmb pa (isS x = true) p) : EX X G e p (dS x) .frs := by
  obtain ⟨te, h1, h2⟩ := h
  refine EX.flt (k := k) ⟨te, h1, fun σ H F Q R hp q => ?_⟩
  obtain ⟨hpa, hs⟩ := c.out hp
  refine h2 σ H F Q R hpa fun v H' fp s r kd => q v H' fp s ?_ kd
  cases x with
  | str i => exact r
  | _ => cases hs
theorem ex_isiD {x : D} {k : Kd} {T : Str} {U : String} {p2 : Pos} (z : Bool) (C : Cxf X N sc) (hg : sc.names.lookup ("isinstance" : Str) = some .globalImplicit) (hm : X.mg "isinstance" = none) (hgT : sc.names.lookup T = some .globalImplicit) (hmT : X.mg T = none) (hbT : bootBuiltins T = some (.type U)) (ha : EX X G a pa x k)
    (c : Cmb pa (D.isObj x = false) p) (hz : isIns x U = z := by rfl) (hk : (["NoneType", "bool", "int", "str", "list", "tuple"].all fun u => (kitB u U).isSome) = true := by decide +kernel) (hn : T ≠ "__name__" := by decide) (hd : (T == ("__debug__" : Str)) = false := by decide) (hs : starEach [a, .Name T p2] X.env = (false, eval a X.env) :: starEach [.Name T p2] X.env := by rfl) (hpl : (backTo pos (starEach [.Name T p2] X.env)).any (·.1) = false := by rfl) :
    EX X G (.Call (.Name "isinstance" ppos) [a, .Name T p2] [] pos) p z .frs := by
  obtain ⟨ta, a1, a2⟩ := ha
  refine ⟨_, pe_callB call_isi (C.gl hg) hm PyProof.Rows.boot_isinstance (pa_cons a1 (pa_cons (pe_bltn (v := .ty U) (C.gl hgT) hmT hbT rfl hn hd) pa_nil) hs) (by decide) (by decide) hs hpl, fun σ H F Q R hp q => ?_⟩
  obtain ⟨hpa, hob⟩ := c.out hp
  refine a2 σ H F _ R hpa fun v H1 fp s1 r1 _ => ?_
  refine ⟨v, .ty U, _, .type U, z, rfl, .ty U, r1.tyx hob, kit_ty (by rw [← hz]; exact kitB_ok _ hob hk), ?_⟩
  exact q _ H1 [] s1 (.bl z) KdOk.nil
/-- x in a tuple of three texts -/
theorem cm_inT3S {x : Str} {y : T3 Str Str Str} {kx ky : Kd} (ha : EX X G a pa x kx) (hb : EX X G b pb y ky) (c1 : Cmb pa pb p) (hm : behindInMarks .In b = false := by rfl) : CMP X G (.Compare a [.In] [b] pos) p (([y.a, y.b, y.c] : List Str).contains x) :=
  cm2 (pr := True) op_in_seq ha hb (fun _ H fv fw v w Q rv rw' k => by
    obtain ⟨rfl, _⟩ := rv.str_inv
    obtain ⟨l, vs, rfl, hq, rs⟩ := rw'.tup_inv
    obtain ⟨rfl, _⟩ := Reps.strs (ns := [y.a, y.b, y.c]) rs
    refine ⟨l, _, rfl, .inr hq, rfl, rfl, ?_⟩
    rw [if_neg (by decide), inV_str]; exact k) c1 (.l p) hm
/-- a tuple of three texts of the module -/
structure TupG (K : PySem.W.Frag) (mg : Str → Option Value) (x : Str) (y : T3 Str Str Str) : Prop where
  g : mg x = some (.ref (He.ga K x))
  r : ∀ H, Rep K H [] (.ref (He.ga K x)) (enc y)
theorem tupG_of {K : PySem.W.Frag} {mg : Str → Option Value} {x u v w : Str} (g : mg x = some (.ref (He.ga K x))) (h : He.tupB K x [.str u, .str v, .str w] = true) : TupG K mg x ⟨u, v, w⟩ :=
  ⟨g, fun H => .tup (He.tupB_ok h H) (.cons (fp := []) (fp' := []) (.str u) (.cons (fp := []) (fp' := []) (.str v) (.cons (fp := []) (fp' := []) (.str w) .nil)))⟩
theorem ex_globT {y : Str} {z : T3 Str Str Str} (C : Cxf X N sc) (hg : sc.names.lookup y = some .globalImplicit) (hm : TupG X.K X.mg y z) (hd : (y == ("__debug__" : Str)) = false := by decide) : EX X G (.Name y pos) True z .frs :=
  ex_glob (v := .ref (He.ga X.K y)) (C.gl hg) hm.g (He.relB_ok (by simp [He.relB])) hm.r hd
end
end BW

set_option Elab.async false
set_option linter.all false
set_option maxRecDepth 100000
set_option maxHeartbeats 4000000
/-! Plain facts of the mirrors: places, slices, loops, drawn numbers. -/
namespace BW
open PySem L2

/-! ### numbers -/
theorem log2_lt {n a : Nat} (h : n < 2 ^ a) (ha : 0 < a) : n.log2 < a := by
  by_cases hn : n = 0
  · rw [hn, Nat.log2_zero]; exact ha
  · exact (Nat.log2_lt hn).mpr h
theorem mulOk_of {i j : Int} (a b : Nat) (hi : i.natAbs < 2 ^ a) (hj : j.natAbs < 2 ^ b) (hab : a + b ≤ 100000000) (ha : 0 < a := by decide) (hb : 0 < b := by decide) : MulOk i j := by
  have h1 := log2_lt hi ha
  have h2 := log2_lt hj hb
  unfold MulOk
  omega
theorem mulOk_small {i j : Int} (hi : i.natAbs < 2 ^ 256) (hj : j.natAbs < 2 ^ 256) : MulOk i j := mulOk_of 256 256 hi hj (by decide)
theorem divOk_of {i j : Int} (a : Nat) (hj : 0 < j) (h : j.natAbs < 2 ^ a) (ha : a ≤ 9000) (h0 : 0 < a := by decide) : DivOk i j := ⟨hj, Nat.lt_of_lt_of_le (log2_lt h h0) ha⟩
theorem divOk_small {i j : Int} (hj : 0 < j) (h : j < 2 ^ 256) : DivOk i j := divOk_of 256 hj (by omega) (by decide)
theorem intBits_le {i : Int} {a : Nat} (h : i.natAbs < 2 ^ a) (ha : 0 < a) : Builtin.Int.intBits i ≤ a := by
  have := log2_lt h ha
  unfold Builtin.Int.intBits
  split <;> omega
theorem powOk_of {i j : Int} (a b : Nat) (h : i.natAbs < 2 ^ a) (h0 : 0 ≤ j) (hj : j ≤ b) (hab : a * b ≤ 2 ^ 27) (ha : 0 < a := by decide) : PowOk i j := by
  refine ⟨h0, ?_⟩
  have h1 := intBits_le h ha
  have h2 : (Builtin.Int.intBits i : Int) * j ≤ (a : Int) * (b : Int) := Int.mul_le_mul (by omega) hj h0 (by omega)
  have h3 : (a : Int) * (b : Int) = ((a * b : Nat) : Int) := by simp
  omega

/-! ### places -/
theorem pyGet_nat {t : Type} (d : t) (xs : List t) (n : Nat) : pyGet d xs (n : Int) = xs.getD n d := by
  unfold pyGet ixN
  by_cases h : n < xs.length
  · have h1 : ((n : Nat) : Int) < xs.length := by omega
    rw [if_pos (by omega), if_pos h1]
    simp [h]
  · have h1 : ¬ ((n : Nat) : Int) < xs.length := by omega
    rw [if_pos (by omega), if_neg h1]
    simp [h]
theorem pyGet_pos {t : Type} (d : t) (xs : List t) (i : Int) (h : 0 ≤ i) : pyGet d xs i = xs.getD i.toNat d := by
  have e : i = ((i.toNat : Nat) : Int) := by omega
  rw [e, pyGet_nat, ← e]
@[simp] theorem pyGet_lit {t : Type} (d : t) (xs : List t) (n : Nat) : pyGet d xs (no_index (OfNat.ofNat n : Int)) = xs.getD (OfNat.ofNat n) d := pyGet_nat d xs n
theorem pyGet_mem {t : Type} (d : t) (xs : List t) (i : Int) (h : IxOk xs.length i) : pyGet d xs i ∈ xs := by
  obtain ⟨j, e, hj⟩ := ixN_some h
  unfold pyGet
  rw [e]
  simp [hj]
theorem ixOk_of {n : Nat} {i : Int} (h0 : 0 ≤ i) (h : i < n) : IxOk n i := ⟨by omega, h⟩
theorem pyGet_neg {t : Type} (d : t) (xs : List t) (i : Int) (h : i < 0) (h2 : -(xs.length : Int) ≤ i) : pyGet d xs i = xs.getD (i + xs.length).toNat d := by
  unfold pyGet ixN
  rw [if_neg (by omega), if_pos h2]
  have : (i + xs.length).toNat < xs.length := by omega
  simp [this]

/-! ### slices -/
theorem pySlice_to {t : Type} (xs : List t) (n : Nat) : pySlice xs none (some (n : Int)) = xs.take n := by
  unfold pySlice
  rw [HT.sIx_none, HT.sIx_nat]
  by_cases h : n ≤ xs.length
  · rw [Nat.min_eq_left h]; simp
  · rw [Nat.min_eq_right (by omega)]; simp [List.take_of_length_le (show xs.length ≤ n by omega)]
theorem pySlice_from {t : Type} (xs : List t) (n : Nat) : pySlice xs (some (n : Int)) none = xs.drop n := by
  unfold pySlice
  rw [HT.sIx_none, HT.sIx_nat]
  by_cases h : n ≤ xs.length
  · rw [Nat.min_eq_left h, List.take_of_length_le (by simp)]
  · rw [Nat.min_eq_right (by omega)]; simp; omega
theorem pySlice_nat {t : Type} (xs : List t) (m n : Nat) : pySlice xs (some (m : Int)) (some (n : Int)) = (xs.take n).drop m := by
  unfold pySlice
  rw [HT.sIx_nat, HT.sIx_nat, List.drop_take]
  by_cases h : n ≤ xs.length
  · rw [Nat.min_eq_left h]
    by_cases hm : m ≤ xs.length
    · rw [Nat.min_eq_left hm]
    · rw [Nat.min_eq_right (by omega)]
      have : n - xs.length = 0 := by omega
      rw [this, List.take_zero]
      have : n - m = 0 := by omega
      rw [this, List.take_zero]
  · rw [Nat.min_eq_right (by omega : xs.length ≤ n)]
    by_cases hm : m ≤ xs.length
    · rw [Nat.min_eq_left hm, List.take_of_length_le (by simp), List.take_of_length_le (by simp; omega)]
    · rw [Nat.min_eq_right (by omega)]
      simp
      omega
theorem pySlice_lit {t : Type} (xs : List t) (n : Nat) : pySlice xs none (some (no_index (OfNat.ofNat n : Int))) = xs.take (OfNat.ofNat n) := pySlice_to xs n
theorem pySlice_litF {t : Type} (xs : List t) (n : Nat) : pySlice xs (some (no_index (OfNat.ofNat n : Int))) none = xs.drop (OfNat.ofNat n) := pySlice_from xs n
theorem pySlice_len {t : Type} (xs : List t) (lo hi : Option Int) : (pySlice xs lo hi).length ≤ xs.length := by
  unfold pySlice
  rw [List.length_take, List.length_drop]
  omega
theorem pySlice_sub {t : Type} {xs : List t} {lo hi : Option Int} {x : t} (h : x ∈ pySlice xs lo hi) : x ∈ xs := List.mem_of_mem_drop (List.mem_of_mem_take h)

/-! ### ranges -/
theorem mem_pyRange {lo : Int} {n : Nat} {x : Int} : x ∈ pyRange lo n ↔ lo ≤ x ∧ x < lo + n := by
  unfold pyRange
  rw [List.mem_map]
  constructor
  · rintro ⟨i, hi, rfl⟩
    rw [List.mem_range] at hi
    omega
  · intro h
    exact ⟨(x - lo).toNat, List.mem_range.mpr (by omega), by omega⟩
theorem pyRange_succ (lo : Int) (n : Nat) : pyRange lo (n + 1) = pyRange lo n ++ [lo + (n : Int)] := by
  unfold pyRange
  rw [List.range_succ, List.map_append]
  rfl
theorem pyRange_zero (lo : Int) : pyRange lo 0 = [] := rfl

/-! ### loops -/
theorem foldP_append {L t : Type} (p : L → t → Prop) (f : L → t → L) : ∀ (xs ys : List t) (s : L), foldP p f s (xs ++ ys) ↔ (foldP p f s xs ∧ foldP p f (xs.foldl f s) ys)
  | [], ys, s => ⟨fun h => ⟨trivial, h⟩, fun h => h.2⟩
  | x :: xs, ys, s => by
    show (p s x ∧ foldP p f (f s x) (xs ++ ys)) ↔ ((p s x ∧ foldP p f (f s x) xs) ∧ foldP p f (xs.foldl f (f s x)) ys)
    rw [foldP_append p f xs ys, and_assoc]
/-! ### loops over nothing -/
theorem loop_unit {t B R : Type} {p : Unit → t → Prop} {f : Unit → t → Out Unit Unit R} {xs : List t} (h : ∀ x ∈ xs, p () x ∧ f () x = .fall ()) :
    loopP p f () xs ∧ (loopL f () xs : Out Unit B R) = .fall () := by
  induction xs with
  | nil => exact ⟨trivial, rfl⟩
  | cons x xs ih =>
    have hx := h x List.mem_cons_self
    have hr := ih fun y hy => h y (List.mem_cons_of_mem x hy)
    constructor
    · show p () x ∧ stepP (f () x) fun s => loopP p f s xs
      rw [hx.2]
      exact ⟨hx.1, hr.1⟩
    · show stepO (f () x) (fun s => loopL f s xs) = _
      rw [hx.2]
      exact hr.2
/-- what stands and what falls through -/
def OKK {S B R : Type} (p : Prop) (o : Out S B R) (q : Out S B R) : Prop := p ∧ o = q
theorem OKK.l {S B R t : Type} {v : t} {P : t → Prop} {O : t → Out S B R} {q : Out S B R} (h : ∀ x, x = v → OKK (P x) (O x) q) : OKK (lt v P) (lt v O) q := h v rfl
theorem OKK.r {S B R t : Type} {v : t} {p : Prop} {O : t → Out S B R} {q : Out S B R} (h : ∀ x, x = v → OKK p (O x) q) : OKK p (lt v O) q := h v rfl
theorem OKK.a {S B R : Type} {p p' : Prop} {o : Out S B R} {q : Out S B R} (hp : p) (h : OKK p' o q) : OKK (p ∧ p') o q := ⟨⟨hp, h.1⟩, h.2⟩
theorem OKK.al {S B R t : Type} {v : t} {p : Prop} {P : t → Prop} {O : t → Out S B R} {q : Out S B R} (hp : p) (h : ∀ x, x = v → OKK (P x) (O x) q) : OKK (p ∧ lt v P) (lt v O) q := .a hp (.l h)
theorem OKK.i {S B R : Type} {c : Bool} {p q' : Prop} {o o' : Out S B R} {q : Out S B R} (hc : c = false) (h : OKK p o q) : OKK ((c = true → q') ∧ (c = false → p)) (if c = true then o' else o) q := by
  subst hc
  exact ⟨⟨nofun, fun _ => h.1⟩, h.2⟩
theorem OKK.i0 {S B R : Type} {c : Bool} {p : Prop} {o o' : Out S B R} {q : Out S B R} (hc : c = false) (h : OKK p o q) : OKK p (if c = true then o' else o) q := by
  subst hc
  exact ⟨h.1, h.2⟩
theorem OKK.i1 {S B R : Type} {c : Bool} {p : Prop} {o o' : Out S B R} {q : Out S B R} (hc : c = false) (h : OKK p o q) : OKK (c = false → p) (if c = true then o' else o) q := by
  subst hc
  exact ⟨fun _ => h.1, h.2⟩

/-! ### numbers that are drawn -/
def StirOk (_ : Int) (k : Int) : Prop := 0 ≤ k ∧ k < 2 ^ 62
def DrawOk (_ : Int) (sizes : List Int) : Prop := sizes.length < 1000000 ∧ ∀ s ∈ sizes, 0 < s ∧ s < 2 ^ 256

/-! ### forms and ears -/
abbrev sNone : Str := Str.ofString "none"
abbrev sEven : Str := Str.ofString "even"
abbrev sOdd : Str := Str.ofString "odd"
def FormOk (f : Int × Str) : Prop := (2 ≤ f.1 ∧ f.1 ≤ 16) ∧ (f.2 = sNone ∨ f.2 = sEven ∨ f.2 = sOdd)
def FormOk2 (f : Int × Str) (_ : Int) : Prop := FormOk f
def formOf (n : Int) : Int × Str := (2 + n % 15, pyGet (Str.ofString "") [sNone, sEven, sOdd] (n / 15 % 3))
def EarOk (e : T3 Int Int Int) : Prop := (3 ≤ e.a ∧ e.a ≤ 64) ∧ (0 ≤ e.c ∧ e.c ≤ 3) ∧ (e.c + 1 ≤ e.b ∧ e.b + e.c < e.a)
def leastOf (c : Int) : Int := max 3 (2 * c + 2)
def overOf (n : Int) : Int := leastOf (n % 4) + n / 4 % (65 - leastOf (n % 4))
def earOf (n : Int) : T3 Int Int Int := ⟨overOf n, n % 4 + 1 + n / 260 % (overOf n - 2 * (n % 4) - 1), n % 4⟩
def bitsOf (n w : Int) : List Int := (pyRange 0 n.toNat).map fun k => w / 2 ^ k.toNat % 2
def checkOf (f : Int × Str) (bits : List Int) : Int := (bits.sum + b2I (decide (f.2 = sOdd))) % 2
def checksOf (f : Int × Str) (bits : List Int) : List Int := if f.2 = sNone then [] else [checkOf f bits]
def levels (f : Int × Str) (w : Int) : List Int := 0 :: (bitsOf f.1 w ++ (checksOf f (bitsOf f.1 w) ++ [1]))
def levelsE (f : Int × Str) (w : Int) : Except Str (List Int) := if 0 ≤ w ∧ w < 2 ^ f.1.toNat then .ok (levels f w) else .error (Str.ofString "NoWord")
def AskOk (e : T3 Int Int Int) (l : Int) : Prop := EarOk e ∧ 0 ≤ l ∧ l < 2 ^ 40
def ReachOk (f : Int × Str) (e : T3 Int Int Int) : Prop := FormOk f ∧ EarOk e
def SureOk (f : Int × Str) (e : T3 Int Int Int) (step : Int) : Prop := FormOk f ∧ EarOk e ∧ 1 ≤ step ∧ step ≤ 10 ^ 13
def SpareOk (f : Int × Str) (e : T3 Int Int Int) (step rate : Int) : Prop := FormOk f ∧ EarOk e ∧ (0 ≤ step ∧ step ≤ 10 ^ 13) ∧ 0 ≤ rate ∧ rate ≤ 10 ^ 20
def sizeOf (f : Int × Str) : Int := if f.2 = sNone then f.1 + 2 else f.1 + 3
def spareAt (e : T3 Int Int Int) (step rate k : Int) : Int × Int := ((k * e.a + e.b - e.c) * step - k * rate, (k + 1) * rate - (k * e.a + e.b + e.c + 1) * step)
def spareOf (f : Int × Str) (e : T3 Int Int Int) (step rate : Int) : List (Int × Int) := (pyRange 0 (sizeOf f).toNat).map (spareAt e step rate)
def sureB (f : Int × Str) (e : T3 Int Int Int) (step rate : Int) : Bool := (spareOf f e step rate).all fun q => decide (0 ≤ q.1) && decide (0 ≤ q.2)
end BW

set_option pp.maxSteps 1500
set_option pp.proofs false
set_option Elab.async false
set_option linter.all false
set_option maxRecDepth 100000
set_option maxHeartbeats 4000000
namespace BW
open PySem L2
def v_law_stir (cell_ : Int) (k_ : Int) : Int :=
  (lt ((((cell_ % ((10 : Int) ^ ((60 : Int)).toNat)) + ((7919 : Int) * k_)) + (1 : Int)) * (27182818284590452353602874713527 : Int)) fun number_1 : Int => (lt (number_1 % (170141183460469231731687303715884105727 : Int)) fun number_2 : Int => (((((number_2 ^ ((5 : Int)).toNat) + ((48271 : Int) * k_)) ^ ((3 : Int)).toNat) % (162259276829213363391578010288127 : Int)) / (7 : Int))))
def p_law_stir (cell_ : Int) (k_ : Int) : Prop :=
  (((MulOk (7919 : Int) k_) ∧ (MulOk (((cell_ % ((10 : Int) ^ ((60 : Int)).toNat)) + ((7919 : Int) * k_)) + (1 : Int)) (27182818284590452353602874713527 : Int))) ∧ (lt ((((cell_ % ((10 : Int) ^ ((60 : Int)).toNat)) + ((7919 : Int) * k_)) + (1 : Int)) * (27182818284590452353602874713527 : Int)) fun number_1 : Int => (lt (number_1 % (170141183460469231731687303715884105727 : Int)) fun number_2 : Int => (((PowOk number_2 (5 : Int)) ∧ (MulOk (48271 : Int) k_)) ∧ (PowOk ((number_2 ^ ((5 : Int)).toNat) + ((48271 : Int) * k_)) (3 : Int))))))
def v_law_drawn (cell_ : Int) (sizes_ : (List Int)) : (List Int) :=
  (lt ([] : (List Int)) fun found_1 : (List Int) => (lt cell_ fun rest_2 : Int => (lt ((pyRange 0 ((sizes_.length : Int)).toNat).foldl (fun (s3_ : ((List Int) × Int)) (x4_ : Int) => (if ((decide (cell_ < ((10 : Int) ^ ((18 : Int)).toNat))) || (decide (s3_.2 = (0 : Int)))) = true then (lt (s3_.1 ++ [((v_law_stir cell_ x4_) % (pyGet (0 : Int) sizes_ x4_))]) fun found_6 : (List Int) => (found_6, s3_.2)) else (lt (s3_.1 ++ [(s3_.2 % (pyGet (0 : Int) sizes_ x4_))]) fun found_7 : (List Int) => (lt (s3_.2 / (pyGet (0 : Int) sizes_ x4_)) fun rest_8 : Int => (found_7, rest_8))))) (found_1, rest_2)) fun s9_ : ((List Int) × Int) => s9_.1)))
def p_law_drawn (cell_ : Int) (sizes_ : (List Int)) : Prop :=
  (lt ([] : (List Int)) fun found_1 : (List Int) => (lt cell_ fun rest_2 : Int => ((RgOk (sizes_.length : Int)) ∧ (foldP (fun (s3_ : ((List Int) × Int)) (x4_ : Int) => (True ∧ (((decide (cell_ < ((10 : Int) ^ ((18 : Int)).toNat))) || (decide (s3_.2 = (0 : Int)))) = true → ((((StirOk cell_ x4_) ∧ (IxOk sizes_.length x4_)) ∧ ((0 : Int) < (pyGet (0 : Int) sizes_ x4_))) ∧ (LenOk (s3_.1.length + 1)))) ∧ (((decide (cell_ < ((10 : Int) ^ ((18 : Int)).toNat))) || (decide (s3_.2 = (0 : Int)))) = false → ((((IxOk sizes_.length x4_) ∧ ((0 : Int) < (pyGet (0 : Int) sizes_ x4_))) ∧ (LenOk (s3_.1.length + 1))) ∧ (lt (s3_.1 ++ [(s3_.2 % (pyGet (0 : Int) sizes_ x4_))]) fun found_7 : (List Int) => ((IxOk sizes_.length x4_) ∧ (DivOk s3_.2 (pyGet (0 : Int) sizes_ x4_)))))))) (fun (s3_ : ((List Int) × Int)) (x4_ : Int) => (if ((decide (cell_ < ((10 : Int) ^ ((18 : Int)).toNat))) || (decide (s3_.2 = (0 : Int)))) = true then (lt (s3_.1 ++ [((v_law_stir cell_ x4_) % (pyGet (0 : Int) sizes_ x4_))]) fun found_6 : (List Int) => (found_6, s3_.2)) else (lt (s3_.1 ++ [(s3_.2 % (pyGet (0 : Int) sizes_ x4_))]) fun found_7 : (List Int) => (lt (s3_.2 / (pyGet (0 : Int) sizes_ x4_)) fun rest_8 : Int => (found_7, rest_8))))) (found_1, rest_2) (pyRange 0 ((sizes_.length : Int)).toNat)))))
def v_law_whole (thing_ : Int) : Bool :=
  (true && (!false))
def p_law_whole (thing_ : Int) : Prop :=
  True
def v_law_cell_at (script_ : Scr) (k_ : Int) : Int :=
  (if (decide (k_ < (script_.xs.length : Int))) = true then (pyGet (0 : Int) script_.xs k_) else (0 : Int))
def p_law_cell_at (script_ : Scr) (k_ : Int) : Prop :=
  ((decide (k_ < (script_.xs.length : Int))) = true → (IxOk script_.xs.length k_))
def v_law_form (number_ : Int) : (Int × Str) :=
  (((2 : Int) + (number_ % (15 : Int))), (pyGet (Str.ofString "") ([(Str.ofString "none"), (Str.ofString "even"), (Str.ofString "odd")] : (List Str)) ((number_ / (15 : Int)) % (3 : Int))))
def p_law_form (number_ : Int) : Prop :=
  (IxOk ([(Str.ofString "none"), (Str.ofString "even"), (Str.ofString "odd")] : (List Str)).length ((number_ / (15 : Int)) % (3 : Int)))
def v_law_ear (number_ : Int) : (T3 Int Int Int) :=
  (lt (number_ % (4 : Int)) fun beside_1 : Int => (lt (max (3 : Int) (((2 : Int) * beside_1) + (2 : Int))) fun least_2 : Int => (lt (least_2 + ((number_ / (4 : Int)) % ((65 : Int) - least_2))) fun over_3 : Int => (T3.mk over_3 ((beside_1 + (1 : Int)) + ((number_ / (260 : Int)) % ((over_3 - ((2 : Int) * beside_1)) - (1 : Int)))) beside_1))))
def p_law_ear (number_ : Int) : Prop :=
  (lt (number_ % (4 : Int)) fun beside_1 : Int => ((MulOk (2 : Int) beside_1) ∧ (lt (max (3 : Int) (((2 : Int) * beside_1) + (2 : Int))) fun least_2 : Int => (((0 : Int) < ((65 : Int) - least_2)) ∧ (lt (least_2 + ((number_ / (4 : Int)) % ((65 : Int) - least_2))) fun over_3 : Int => ((MulOk (2 : Int) beside_1) ∧ ((0 : Int) < ((over_3 - ((2 : Int) * beside_1)) - (1 : Int)))))))))
def v_law_levels (form_ : (Int × Str)) (word_ : Int) : (List Int) :=
  (lt ((pyRange 0 (form_.1).toNat).map (fun x1_ : Int => (Builtin.bitAnd (word_ / 2 ^ (x1_).toNat) (1 : Int)))) fun bits_2 : (List Int) => (lt ([] : (List Int)) fun check_3 : (List Int) => (lt (if (!decide (form_.2 = (Str.ofString "none"))) = true then (lt ([(((bits_2.sum) + (b2I (decide (form_.2 = (Str.ofString "odd"))))) % (2 : Int))] : (List Int)) fun check_5 : (List Int) => check_5) else check_3) fun s4_ : (List Int) => (((([(0 : Int)] : (List Int)) ++ bits_2) ++ s4_) ++ ([(1 : Int)] : (List Int))))))
def p_law_levels (form_ : (Int × Str)) (word_ : Int) : Prop :=
  ((((RgOk form_.1) ∧ (∀ x1_ ∈ (pyRange 0 (form_.1).toNat), ((0 : Int) ≤ x1_))) ∧ (LenOk (pyRange 0 (form_.1).toNat).length)) ∧ (lt ((pyRange 0 (form_.1).toNat).map (fun x1_ : Int => (Builtin.bitAnd (word_ / 2 ^ (x1_).toNat) (1 : Int)))) fun bits_2 : (List Int) => (lt ([] : (List Int)) fun check_3 : (List Int) => (lt (if (!decide (form_.2 = (Str.ofString "none"))) = true then (lt ([(((bits_2.sum) + (b2I (decide (form_.2 = (Str.ofString "odd"))))) % (2 : Int))] : (List Int)) fun check_5 : (List Int) => check_5) else check_3) fun s4_ : (List Int) => (((([(0 : Int)] : (List Int)).length + bits_2.length ≤ sizeLine) ∧ ((([(0 : Int)] : (List Int)) ++ bits_2).length + s4_.length ≤ sizeLine)) ∧ (((([(0 : Int)] : (List Int)) ++ bits_2) ++ s4_).length + ([(1 : Int)] : (List Int)).length ≤ sizeLine))))))
def v_size_of (form_ : (Int × Str)) : Int :=
  (if (decide (form_.2 = (Str.ofString "none"))) = true then (form_.1 + (2 : Int)) else (form_.1 + (3 : Int)))
def p_size_of (form_ : (Int × Str)) : Prop :=
  True
def v_check_due (form_ : (Int × Str)) (bits_ : (List Int)) : Int :=
  (lt (bits_.sum) fun ones_1 : Int => (if (decide (form_.2 = (Str.ofString "even"))) = true then (Builtin.bitAnd ones_1 (1 : Int)) else ((1 : Int) - (Builtin.bitAnd ones_1 (1 : Int)))))
def p_check_due (form_ : (Int × Str)) (bits_ : (List Int)) : Prop :=
  True
def o_levels_of (form_ : (Int × Str)) (word_ : Int) : Out Empty Empty (List Int) :=
  (if ((decide (word_ < (0 : Int))) || (decide (((1 : Int) * 2 ^ (form_.1).toNat) ≤ word_))) = true then (.exc (Str.ofString "NoWord")) else (lt ((pyRange 0 (form_.1).toNat).map (fun x1_ : Int => (Builtin.bitAnd (word_ / 2 ^ (x1_).toNat) (1 : Int)))) fun bits_2 : (List Int) => (if (decide (form_.2 = (Str.ofString "none"))) = true then (.ret ((([(0 : Int)] : (List Int)) ++ bits_2) ++ ([(1 : Int)] : (List Int)))) else (.ret ((([(0 : Int)] : (List Int)) ++ bits_2) ++ ([(v_check_due form_ bits_2), (1 : Int)] : (List Int)))))))
def v_levels_of (form_ : (Int × Str)) (word_ : Int) : Except Str (List Int) := outV (o_levels_of form_ word_)
def p_levels_of (form_ : (Int × Str)) (word_ : Int) : Prop :=
  (((!(decide (word_ < (0 : Int)))) = true → (CPow (1 : Int) form_.1)) ∧ (((decide (word_ < (0 : Int))) || (decide (((1 : Int) * 2 ^ (form_.1).toNat) ≤ word_))) = true → True) ∧ (((decide (word_ < (0 : Int))) || (decide (((1 : Int) * 2 ^ (form_.1).toNat) ≤ word_))) = false → ((((RgOk form_.1) ∧ (∀ x1_ ∈ (pyRange 0 (form_.1).toNat), ((0 : Int) ≤ x1_))) ∧ (LenOk (pyRange 0 (form_.1).toNat).length)) ∧ (lt ((pyRange 0 (form_.1).toNat).map (fun x1_ : Int => (Builtin.bitAnd (word_ / 2 ^ (x1_).toNat) (1 : Int)))) fun bits_2 : (List Int) => (True ∧ ((decide (form_.2 = (Str.ofString "none"))) = true → ((([(0 : Int)] : (List Int)).length + bits_2.length ≤ sizeLine) ∧ ((([(0 : Int)] : (List Int)) ++ bits_2).length + ([(1 : Int)] : (List Int)).length ≤ sizeLine))) ∧ ((decide (form_.2 = (Str.ofString "none"))) = false → ((([(0 : Int)] : (List Int)).length + bits_2.length ≤ sizeLine) ∧ ((([(0 : Int)] : (List Int)) ++ bits_2).length + ([(v_check_due form_ bits_2), (1 : Int)] : (List Int)).length ≤ sizeLine))))))))
def o_outcome (form_ : (Int × Str)) (levels_ : (List Int)) : Out Empty Empty Oc :=
  (if (!decide ((levels_.length : Int) = (v_size_of form_))) = true then (.exc (Str.ofString "NoLevels")) else (if (decide ((pyGet (0 : Int) levels_ (0 : Int)) = (1 : Int))) = true then (.ret (Oc.broken (Str.ofString "start"))) else (lt (pySlice levels_ (some (1 : Int)) (some (form_.1 + (1 : Int)))) fun bits_1 : (List Int) => (if ((!decide (form_.2 = (Str.ofString "none"))) && (!decide ((pyGet (0 : Int) levels_ (form_.1 + (1 : Int))) = (v_check_due form_ bits_1)))) = true then (.ret (Oc.broken (Str.ofString "check"))) else (if (decide ((pyGet (0 : Int) levels_ (-(1 : Int))) = (0 : Int))) = true then (.ret (Oc.broken (Str.ofString "stop"))) else (lt (0 : Int) fun word_2 : Int => (lt ((bits_1.reverse).foldl (fun (s3_ : Int) (x4_ : Int) => (lt (((2 : Int) * s3_) + x4_) fun word_6 : Int => word_6)) word_2) fun s7_ : Int => (.ret (Oc.word s7_)))))))))
def v_outcome (form_ : (Int × Str)) (levels_ : (List Int)) : Except Str Oc := outV (o_outcome form_ levels_)
def p_outcome (form_ : (Int × Str)) (levels_ : (List Int)) : Prop :=
  ((!decide ((levels_.length : Int) = (v_size_of form_))) = false → ((IxOk levels_.length (0 : Int)) ∧ ((decide ((pyGet (0 : Int) levels_ (0 : Int)) = (1 : Int))) = true → True) ∧ ((decide ((pyGet (0 : Int) levels_ (0 : Int)) = (1 : Int))) = false → (lt (pySlice levels_ (some (1 : Int)) (some (form_.1 + (1 : Int)))) fun bits_1 : (List Int) => (((!decide (form_.2 = (Str.ofString "none"))) = true → (IxOk levels_.length (form_.1 + (1 : Int)))) ∧ (((!decide (form_.2 = (Str.ofString "none"))) && (!decide ((pyGet (0 : Int) levels_ (form_.1 + (1 : Int))) = (v_check_due form_ bits_1)))) = true → True) ∧ (((!decide (form_.2 = (Str.ofString "none"))) && (!decide ((pyGet (0 : Int) levels_ (form_.1 + (1 : Int))) = (v_check_due form_ bits_1)))) = false → ((IxOk levels_.length (-(1 : Int))) ∧ ((decide ((pyGet (0 : Int) levels_ (-(1 : Int))) = (0 : Int))) = true → True) ∧ ((decide ((pyGet (0 : Int) levels_ (-(1 : Int))) = (0 : Int))) = false → (lt (0 : Int) fun word_2 : Int => (foldP (fun (s3_ : Int) (x4_ : Int) => (MulOk (2 : Int) s3_)) (fun (s3_ : Int) (x4_ : Int) => (lt (((2 : Int) * s3_) + x4_) fun word_6 : Int => word_6)) word_2 (bits_1.reverse)))))))))))
def v_law_outcome (form_ : (Int × Str)) (levels_ : (List Int)) : Oc :=
  (if (decide ((pyGet (0 : Int) levels_ (0 : Int)) = (1 : Int))) = true then (Oc.broken (Str.ofString "start")) else (lt (((pyRange 0 (form_.1).toNat).map (fun x1_ : Int => ((pyGet (0 : Int) levels_ ((1 : Int) + x1_)) * 2 ^ (x1_).toNat))).sum) fun word_2 : Int => (if ((!decide (form_.2 = (Str.ofString "none"))) && (!decide ((pyGet (0 : Int) levels_ (-(2 : Int))) = (pyGet (0 : Int) (levels form_ word_2) (-(2 : Int)))))) = true then (Oc.broken (Str.ofString "check")) else (pyGet (Oc.word 0) ([(Oc.broken (Str.ofString "stop")), (Oc.word word_2)] : (List Oc)) (pyGet (0 : Int) levels_ (-(1 : Int)))))))
def p_law_outcome (form_ : (Int × Str)) (levels_ : (List Int)) : Prop :=
  ((IxOk levels_.length (0 : Int)) ∧ ((decide ((pyGet (0 : Int) levels_ (0 : Int)) = (1 : Int))) = true → True) ∧ ((decide ((pyGet (0 : Int) levels_ (0 : Int)) = (1 : Int))) = false → ((((RgOk form_.1) ∧ (∀ x1_ ∈ (pyRange 0 (form_.1).toNat), ((IxOk levels_.length ((1 : Int) + x1_)) ∧ (CPow (pyGet (0 : Int) levels_ ((1 : Int) + x1_)) x1_)))) ∧ (LenOk (pyRange 0 (form_.1).toNat).length)) ∧ (lt (((pyRange 0 (form_.1).toNat).map (fun x1_ : Int => ((pyGet (0 : Int) levels_ ((1 : Int) + x1_)) * 2 ^ (x1_).toNat))).sum) fun word_2 : Int => (((!decide (form_.2 = (Str.ofString "none"))) = true → ((IxOk levels_.length (-(2 : Int))) ∧ ((FormOk2 form_ word_2) ∧ (IxOk (levels form_ word_2).length (-(2 : Int)))))) ∧ (((!decide (form_.2 = (Str.ofString "none"))) && (!decide ((pyGet (0 : Int) levels_ (-(2 : Int))) = (pyGet (0 : Int) (levels form_ word_2) (-(2 : Int)))))) = true → True) ∧ (((!decide (form_.2 = (Str.ofString "none"))) && (!decide ((pyGet (0 : Int) levels_ (-(2 : Int))) = (pyGet (0 : Int) (levels form_ word_2) (-(2 : Int)))))) = false → ((IxOk levels_.length (-(1 : Int))) ∧ (IxOk ([(Oc.broken (Str.ofString "stop")), (Oc.word word_2)] : (List Oc)).length (pyGet (0 : Int) levels_ (-(1 : Int)))))))))))
def v_asked_of (ear_ : (T3 Int Int Int)) (level_ : Int) : (List Int) :=
  (lt ear_ fun q1_ : (T3 Int Int Int) => (lt ((level_ * q1_.a) + q1_.b) fun amid_2 : Int => (pyRange (amid_2 - q1_.c) (((amid_2 + q1_.c) + (1 : Int)) - (amid_2 - q1_.c)).toNat)))
def p_asked_of (ear_ : (T3 Int Int Int)) (level_ : Int) : Prop :=
  (lt ear_ fun q1_ : (T3 Int Int Int) => ((MulOk level_ q1_.a) ∧ (lt ((level_ * q1_.a) + q1_.b) fun amid_2 : Int => (RgOk (amid_2 - q1_.c) ∧ RgOk ((amid_2 + q1_.c) + (1 : Int)) ∧ LenOk (((amid_2 + q1_.c) + (1 : Int)) - (amid_2 - q1_.c)).toNat))))
def v_reach (form_ : (Int × Str)) (ear_ : (T3 Int Int Int)) : Int :=
  (((((v_size_of form_) - (1 : Int)) * ear_.a) + ear_.b) + ear_.c)
def p_reach (form_ : (Int × Str)) (ear_ : (T3 Int Int Int)) : Prop :=
  (MulOk ((v_size_of form_) - (1 : Int)) ear_.a)
def v_law_sure (form_ : (Int × Str)) (ear_ : (T3 Int Int Int)) (step_ : Int) : (Int × Int) :=
  (lt ear_ fun q1_ : (T3 Int Int Int) => (lt (1 : Int) fun least_2 : Int => (lt ((q1_.a * step_) * (2 : Int)) fun most_3 : Int => (lt ((pyRange 0 (((levels form_ (0 : Int)).length : Int)).toNat).foldl (fun (s4_ : (Int × Int)) (x5_ : Int) => (lt (max s4_.1 (-(((-((((x5_ * q1_.a) + q1_.b) + q1_.c) + (1 : Int))) * step_) / (x5_ + (1 : Int))))) fun least_7 : Int => (lt (if (decide ((0 : Int) < x5_)) = true then (lt (min s4_.2 (((((x5_ * q1_.a) + q1_.b) - q1_.c) * step_) / x5_)) fun most_9 : Int => most_9) else s4_.2) fun s8_ : Int => (least_7, s8_)))) (least_2, most_3)) fun s10_ : (Int × Int) => (s10_.1, s10_.2)))))
def p_law_sure (form_ : (Int × Str)) (ear_ : (T3 Int Int Int)) (step_ : Int) : Prop :=
  (lt ear_ fun q1_ : (T3 Int Int Int) => (lt (1 : Int) fun least_2 : Int => (((MulOk q1_.a step_) ∧ (MulOk (q1_.a * step_) (2 : Int))) ∧ (lt ((q1_.a * step_) * (2 : Int)) fun most_3 : Int => (((FormOk2 form_ (0 : Int)) ∧ (RgOk ((levels form_ (0 : Int)).length : Int))) ∧ (foldP (fun (s4_ : (Int × Int)) (x5_ : Int) => ((((MulOk x5_ q1_.a) ∧ (MulOk (-((((x5_ * q1_.a) + q1_.b) + q1_.c) + (1 : Int))) step_)) ∧ (DivOk ((-((((x5_ * q1_.a) + q1_.b) + q1_.c) + (1 : Int))) * step_) (x5_ + (1 : Int)))) ∧ (lt (max s4_.1 (-(((-((((x5_ * q1_.a) + q1_.b) + q1_.c) + (1 : Int))) * step_) / (x5_ + (1 : Int))))) fun least_7 : Int => ((decide ((0 : Int) < x5_)) = true → (((MulOk x5_ q1_.a) ∧ (MulOk (((x5_ * q1_.a) + q1_.b) - q1_.c) step_)) ∧ (DivOk ((((x5_ * q1_.a) + q1_.b) - q1_.c) * step_) x5_)))))) (fun (s4_ : (Int × Int)) (x5_ : Int) => (lt (max s4_.1 (-(((-((((x5_ * q1_.a) + q1_.b) + q1_.c) + (1 : Int))) * step_) / (x5_ + (1 : Int))))) fun least_7 : Int => (lt (if (decide ((0 : Int) < x5_)) = true then (lt (min s4_.2 (((((x5_ * q1_.a) + q1_.b) - q1_.c) * step_) / x5_)) fun most_9 : Int => most_9) else s4_.2) fun s8_ : Int => (least_7, s8_)))) (least_2, most_3) (pyRange 0 (((levels form_ (0 : Int)).length : Int)).toNat)))))))
def v_law_asked (ear_ : (T3 Int Int Int)) (level_ : Int) : (List Int) :=
  (lt ear_ fun q1_ : (T3 Int Int Int) => ((pyRange 0 ((((2 : Int) * q1_.c) + (1 : Int))).toNat).map (fun x2_ : Int => ((((level_ * q1_.a) + q1_.b) + x2_) - q1_.c))))
def p_law_asked (ear_ : (T3 Int Int Int)) (level_ : Int) : Prop :=
  (lt ear_ fun q1_ : (T3 Int Int Int) => ((((MulOk (2 : Int) q1_.c) ∧ (RgOk (((2 : Int) * q1_.c) + (1 : Int)))) ∧ (∀ x2_ ∈ (pyRange 0 ((((2 : Int) * q1_.c) + (1 : Int))).toNat), (MulOk level_ q1_.a))) ∧ (LenOk (pyRange 0 ((((2 : Int) * q1_.c) + (1 : Int))).toNat).length)))
def v_spare (form_ : (Int × Str)) (ear_ : (T3 Int Int Int)) (step_ : Int) (rate_ : Int) : (List (Int × Int)) :=
  (lt ([] : (List (Int × Int))) fun found_1 : (List (Int × Int)) => (lt ((pyRange 0 ((v_size_of form_)).toNat).foldl (fun (s2_ : (List (Int × Int))) (x3_ : Int) => (lt (v_asked_of ear_ x3_) fun some_5 : (List Int) => (lt (s2_ ++ [((((pyGet (0 : Int) some_5 (0 : Int)) * step_) - (x3_ * rate_)), (((x3_ + (1 : Int)) * rate_) - (((pyGet (0 : Int) some_5 (-(1 : Int))) + (1 : Int)) * step_)))]) fun found_6 : (List (Int × Int)) => found_6))) found_1) fun s7_ : (List (Int × Int)) => s7_))
def p_spare (form_ : (Int × Str)) (ear_ : (T3 Int Int Int)) (step_ : Int) (rate_ : Int) : Prop :=
  (lt ([] : (List (Int × Int))) fun found_1 : (List (Int × Int)) => ((RgOk (v_size_of form_)) ∧ (foldP (fun (s2_ : (List (Int × Int))) (x3_ : Int) => ((AskOk ear_ x3_) ∧ (lt (v_asked_of ear_ x3_) fun some_5 : (List Int) => (((((IxOk some_5.length (0 : Int)) ∧ (MulOk (pyGet (0 : Int) some_5 (0 : Int)) step_)) ∧ (MulOk x3_ rate_)) ∧ ((MulOk (x3_ + (1 : Int)) rate_) ∧ ((IxOk some_5.length (-(1 : Int))) ∧ (MulOk ((pyGet (0 : Int) some_5 (-(1 : Int))) + (1 : Int)) step_)))) ∧ (LenOk (s2_.length + 1)))))) (fun (s2_ : (List (Int × Int))) (x3_ : Int) => (lt (v_asked_of ear_ x3_) fun some_5 : (List Int) => (lt (s2_ ++ [((((pyGet (0 : Int) some_5 (0 : Int)) * step_) - (x3_ * rate_)), (((x3_ + (1 : Int)) * rate_) - (((pyGet (0 : Int) some_5 (-(1 : Int))) + (1 : Int)) * step_)))]) fun found_6 : (List (Int × Int)) => found_6))) found_1 (pyRange 0 ((v_size_of form_)).toNat))))
def v_is_sure (form_ : (Int × Str)) (ear_ : (T3 Int Int Int)) (step_ : Int) (rate_ : Int) : Bool :=
  (((spareOf form_ ear_ step_ rate_).map (fun x1_ : (Int × Int) => ((decide ((0 : Int) ≤ x1_.1)) && (decide ((0 : Int) ≤ x1_.2))))).all id)
def p_is_sure (form_ : (Int × Str)) (ear_ : (T3 Int Int Int)) (step_ : Int) (rate_ : Int) : Prop :=
  ((SpareOk form_ ear_ step_ rate_) ∧ (LenOk (spareOf form_ ear_ step_ rate_).length))
def v_law_only (word_ : Str) : (List Bool) :=
  (lt ([(Str.ofString "word"), (Str.ofString "levels"), (Str.ofString "speech"), (Str.ofString "line"), (Str.ofString "text"), (Str.ofString "order"), (Str.ofString "beat")] : (List Str)) fun words_1 : (List Str) => ((words_1.map (fun x2_ : Str => (decide (x2_ = word_)))) ++ ([true] : (List Bool))))
def p_law_only (word_ : Str) : Prop :=
  (lt ([(Str.ofString "word"), (Str.ofString "levels"), (Str.ofString "speech"), (Str.ofString "line"), (Str.ofString "text"), (Str.ofString "order"), (Str.ofString "beat")] : (List Str)) fun words_1 : (List Str) => ((LenOk words_1.length) ∧ ((words_1.map (fun x2_ : Str => (decide (x2_ = word_)))).length + ([true] : (List Bool)).length ≤ sizeLine)))
end BW

set_option Elab.async false
set_option linter.all false
set_option maxRecDepth 100000
set_option maxHeartbeats 4000000
/-! Drawn numbers. -/
namespace BW
open PySem L2
theorem nice_law_stir (c k : Int) (h : StirOk c k) : p_law_stir c k ∧ v_law_stir c k = v_law_stir c k := by
  obtain ⟨h0, h1⟩ := h
  refine ⟨?_, rfl⟩
  dsimp only [p_law_stir, lt]
  have e60 : ((10 : Int) ^ ((60 : Int)).toNat) = 10 ^ 60 := rfl
  have a1 : 0 ≤ c % 10 ^ 60 := Int.emod_nonneg _ (by decide)
  have a2 : c % 10 ^ 60 < 10 ^ 60 := Int.emod_lt_of_pos _ (by decide)
  rw [e60]
  generalize c % 10 ^ 60 = m at a1 a2
  generalize hn : (m + 7919 * k + 1) * 27182818284590452353602874713527 = n
  have b1 : 0 ≤ n % 170141183460469231731687303715884105727 := Int.emod_nonneg _ (by decide)
  have b2 : n % 170141183460469231731687303715884105727 < 170141183460469231731687303715884105727 := Int.emod_lt_of_pos _ (by decide)
  generalize n % 170141183460469231731687303715884105727 = q at b1 b2
  refine ⟨⟨mulOk_small (by omega) (by omega), mulOk_small (by omega) (by omega)⟩, ⟨powOk_of 128 5 (by omega) (by decide) (by decide) (by decide), mulOk_small (by omega) (by omega)⟩, powOk_of 1000 3 ?_ (by decide) (by decide) (by decide)⟩
  have hq : q ^ 5 < (2 ^ 127 : Int) ^ 5 := by
    have e1 : q = ((q.toNat : Nat) : Int) := by omega
    have e2 : q.toNat < 2 ^ 127 := by omega
    rw [e1]
    have := Nat.pow_lt_pow_left e2 (show (5 : Nat) ≠ 0 by decide)
    exact_mod_cast this
  have hq0 : 0 ≤ q ^ 5 := Int.pow_nonneg b1
  have e5 : ((5 : Int)).toNat = 5 := rfl
  rw [e5]
  have e3 : (2 ^ 127 : Int) ^ 5 = 2 ^ 635 := by decide +kernel
  rw [e3] at hq
  have e4 : (2 : Int) ^ 635 + 48271 * 2 ^ 62 < 2 ^ 1000 := by decide +kernel
  generalize (2 : Int) ^ 635 = u at *
  have e6 : ((2 ^ 1000 : Nat) : Int) = 2 ^ 1000 := by norm_cast
  have : (q ^ 5 + 48271 * k) < 2 ^ 1000 := by omega
  rw [← e6] at this
  generalize 2 ^ 1000 = z at *
  omega
theorem stir_nonneg (c k : Int) : 0 ≤ v_law_stir c k := by
  dsimp only [v_law_stir, lt]
  exact Int.ediv_nonneg (Int.emod_nonneg _ (by decide)) (by decide)
theorem getD_mem {t : Type} {d : t} {xs : List t} {n : Nat} (h : n < xs.length) : xs.getD n d ∈ xs := by
  rw [List.getD_eq_getElem?_getD, List.getElem?_eq_getElem h]
  exact List.getElem_mem h
/-- a number below each size -/
inductive Below : List Int → List Int → Prop
  | nil : Below [] []
  | cons {d s : Int} {ds ss : List Int} : (0 ≤ d ∧ d < s) → Below ds ss → Below (d :: ds) (s :: ss)
theorem below_snoc {ds ss : List Int} {d s : Int} (h : Below ds ss) (h0 : 0 ≤ d) (h1 : d < s) : Below (ds ++ [d]) (ss ++ [s]) := by
  induction h with
  | nil => exact Below.cons ⟨h0, h1⟩ .nil
  | cons a _ ih => exact Below.cons a ih
theorem below_len {ds ss : List Int} (h : Below ds ss) : ds.length = ss.length := by
  induction h with
  | nil => rfl
  | cons _ _ ih => simp [ih]
theorem below_get {ds ss : List Int} (h : Below ds ss) (n : Nat) (hn : n < ss.length) : 0 ≤ ds.getD n 0 ∧ ds.getD n 0 < ss.getD n 0 := by
  induction h generalizing n with
  | nil => exact absurd hn (by simp)
  | cons a _ ih =>
    cases n with
    | zero => exact a
    | succ n => exact ih n (by simpa using hn)
theorem take_snoc {t : Type} (d : t) (xs : List t) (n : Nat) (h : n < xs.length) : xs.take (n + 1) = xs.take n ++ [xs.getD n d] := by
  rw [List.take_succ, List.getElem?_eq_getElem h, List.getD_eq_getElem?_getD, List.getElem?_eq_getElem h]
  rfl
theorem drawn_ok (c : Int) (ss : List Int) (h : DrawOk c ss) : p_law_drawn c ss ∧ Below (v_law_drawn c ss) ss := by
  obtain ⟨hl, hs⟩ := h
  have hn : ((ss.length : Int)).toNat = ss.length := by omega
  dsimp only [p_law_drawn, v_law_drawn, lt]
  rw [hn]
  have key : ∀ n, n ≤ ss.length → ∀ (p : List Int × Int → Int → Prop) (f : List Int × Int → Int → List Int × Int),
      (∀ (s : List Int × Int) (k : Nat), k < ss.length → Below s.1 (ss.take k) → p s k ∧ Below (f s k).1 (ss.take (k + 1))) →
      foldP p f ([], c) (pyRange 0 n) ∧ Below ((pyRange 0 n).foldl f ([], c)).1 (ss.take n) := by
    intro n hnl p f hpf
    induction n with
    | zero => exact ⟨trivial, by rw [List.take_zero]; exact Below.nil⟩
    | succ n ih =>
      obtain ⟨h1, h2⟩ := ih (by omega)
      rw [pyRange_succ, foldP_append, List.foldl_append]
      have e : (0 : Int) + (n : Int) = (n : Int) := by omega
      rw [e]
      obtain ⟨h3, h4⟩ := hpf _ n (by omega) h2
      exact ⟨⟨h1, h3, trivial⟩, h4⟩
  have key2 : ∀ (p : List Int × Int → Int → Prop) (f : List Int × Int → Int → List Int × Int),
      (∀ (s : List Int × Int) (k : Nat), k < ss.length → Below s.1 (ss.take k) → p s k ∧ Below (f s k).1 (ss.take (k + 1))) →
      foldP p f ([], c) (pyRange 0 ss.length) ∧ Below ((pyRange 0 ss.length).foldl f ([], c)).1 ss := fun p f h => by
    have := key ss.length (Nat.le_refl _) p f h
    rwa [List.take_length] at this
  refine And.imp (fun k1 => ⟨⟨by omega, by omega⟩, k1⟩) id (key2 _ _ ?_)
  · intro s k hk hb
    have hm := hs _ (getD_mem (d := 0) hk)
    have hb2 := below_len hb
    rw [List.length_take, Nat.min_eq_left (by omega)] at hb2
    have hlen : s.1.length + 1 ≤ sizeLine := by have := sizeLine_eq; omega
    rw [pyGet_nat, take_snoc 0 ss k hk]
    generalize ss.getD k 0 = z at hm
    have hix : IxOk ss.length (k : Int) := ixOk_of (by omega) (by omega)
    refine ⟨⟨trivial, fun _ => ⟨⟨⟨⟨by omega, by omega⟩, hix⟩, hm.1⟩, hlen⟩, fun _ => ⟨⟨⟨hix, hm.1⟩, hlen⟩, hix, divOk_small hm.1 hm.2⟩⟩, ?_⟩
    split
    · exact below_snoc hb (Int.emod_nonneg _ (by omega)) (Int.emod_lt_of_pos _ hm.1)
    · exact below_snoc hb (Int.emod_nonneg _ (by omega)) (Int.emod_lt_of_pos _ hm.1)
theorem nice_law_drawn (c : Int) (ss : List Int) (h : DrawOk c ss) : p_law_drawn c ss ∧ v_law_drawn c ss = v_law_drawn c ss := ⟨(drawn_ok c ss h).1, rfl⟩
theorem drawn_below {c : Int} {ss : List Int} (h : DrawOk c ss) : Below (v_law_drawn c ss) ss := (drawn_ok c ss h).2
theorem drawn_len {c : Int} {ss : List Int} (h : DrawOk c ss) : (v_law_drawn c ss).length = ss.length := below_len (drawn_below h)
theorem below_cons {ds ss : List Int} {s : Int} (h : Below ds (s :: ss)) : ∃ d t, ds = d :: t ∧ (0 ≤ d ∧ d < s) ∧ Below t ss := by
  cases h with
  | cons a b => exact ⟨_, _, rfl, a, b⟩
theorem below_nil {ds : List Int} (h : Below ds []) : ds = [] := by
  cases h
  rfl
theorem drawn1 {c s0 : Int} (h : DrawOk c [s0]) : ∃ d0, v_law_drawn c [s0] = [d0] ∧ (0 ≤ d0 ∧ d0 < s0) := by
  have b0 := drawn_below h
  obtain ⟨d0, t0, e0, h0, b1⟩ := below_cons b0
  have z := below_nil b1
  refine ⟨d0, ?_, h0⟩
  rw [e0, z]
theorem drawn2 {c s0 s1 : Int} (h : DrawOk c [s0, s1]) : ∃ d0 d1, v_law_drawn c [s0, s1] = [d0, d1] ∧ (0 ≤ d0 ∧ d0 < s0) ∧ (0 ≤ d1 ∧ d1 < s1) := by
  have b0 := drawn_below h
  obtain ⟨d0, t0, e0, h0, b1⟩ := below_cons b0
  obtain ⟨d1, t1, e1, h1, b2⟩ := below_cons b1
  have z := below_nil b2
  refine ⟨d0, d1, ?_, h0, h1⟩
  rw [e0, e1, z]
theorem drawn3 {c s0 s1 s2 : Int} (h : DrawOk c [s0, s1, s2]) : ∃ d0 d1 d2, v_law_drawn c [s0, s1, s2] = [d0, d1, d2] ∧ (0 ≤ d0 ∧ d0 < s0) ∧ (0 ≤ d1 ∧ d1 < s1) ∧ (0 ≤ d2 ∧ d2 < s2) := by
  have b0 := drawn_below h
  obtain ⟨d0, t0, e0, h0, b1⟩ := below_cons b0
  obtain ⟨d1, t1, e1, h1, b2⟩ := below_cons b1
  obtain ⟨d2, t2, e2, h2, b3⟩ := below_cons b2
  have z := below_nil b3
  refine ⟨d0, d1, d2, ?_, h0, h1, h2⟩
  rw [e0, e1, e2, z]
theorem drawn4 {c s0 s1 s2 s3 : Int} (h : DrawOk c [s0, s1, s2, s3]) : ∃ d0 d1 d2 d3, v_law_drawn c [s0, s1, s2, s3] = [d0, d1, d2, d3] ∧ (0 ≤ d0 ∧ d0 < s0) ∧ (0 ≤ d1 ∧ d1 < s1) ∧ (0 ≤ d2 ∧ d2 < s2) ∧ (0 ≤ d3 ∧ d3 < s3) := by
  have b0 := drawn_below h
  obtain ⟨d0, t0, e0, h0, b1⟩ := below_cons b0
  obtain ⟨d1, t1, e1, h1, b2⟩ := below_cons b1
  obtain ⟨d2, t2, e2, h2, b3⟩ := below_cons b2
  obtain ⟨d3, t3, e3, h3, b4⟩ := below_cons b3
  have z := below_nil b4
  refine ⟨d0, d1, d2, d3, ?_, h0, h1, h2, h3⟩
  rw [e0, e1, e2, e3, z]
theorem drawn5 {c s0 s1 s2 s3 s4 : Int} (h : DrawOk c [s0, s1, s2, s3, s4]) : ∃ d0 d1 d2 d3 d4, v_law_drawn c [s0, s1, s2, s3, s4] = [d0, d1, d2, d3, d4] ∧ (0 ≤ d0 ∧ d0 < s0) ∧ (0 ≤ d1 ∧ d1 < s1) ∧ (0 ≤ d2 ∧ d2 < s2) ∧ (0 ≤ d3 ∧ d3 < s3) ∧ (0 ≤ d4 ∧ d4 < s4) := by
  have b0 := drawn_below h
  obtain ⟨d0, t0, e0, h0, b1⟩ := below_cons b0
  obtain ⟨d1, t1, e1, h1, b2⟩ := below_cons b1
  obtain ⟨d2, t2, e2, h2, b3⟩ := below_cons b2
  obtain ⟨d3, t3, e3, h3, b4⟩ := below_cons b3
  obtain ⟨d4, t4, e4, h4, b5⟩ := below_cons b4
  have z := below_nil b5
  refine ⟨d0, d1, d2, d3, d4, ?_, h0, h1, h2, h3, h4⟩
  rw [e0, e1, e2, e3, e4, z]
theorem drawn6 {c s0 s1 s2 s3 s4 s5 : Int} (h : DrawOk c [s0, s1, s2, s3, s4, s5]) : ∃ d0 d1 d2 d3 d4 d5, v_law_drawn c [s0, s1, s2, s3, s4, s5] = [d0, d1, d2, d3, d4, d5] ∧ (0 ≤ d0 ∧ d0 < s0) ∧ (0 ≤ d1 ∧ d1 < s1) ∧ (0 ≤ d2 ∧ d2 < s2) ∧ (0 ≤ d3 ∧ d3 < s3) ∧ (0 ≤ d4 ∧ d4 < s4) ∧ (0 ≤ d5 ∧ d5 < s5) := by
  have b0 := drawn_below h
  obtain ⟨d0, t0, e0, h0, b1⟩ := below_cons b0
  obtain ⟨d1, t1, e1, h1, b2⟩ := below_cons b1
  obtain ⟨d2, t2, e2, h2, b3⟩ := below_cons b2
  obtain ⟨d3, t3, e3, h3, b4⟩ := below_cons b3
  obtain ⟨d4, t4, e4, h4, b5⟩ := below_cons b4
  obtain ⟨d5, t5, e5, h5, b6⟩ := below_cons b5
  have z := below_nil b6
  refine ⟨d0, d1, d2, d3, d4, d5, ?_, h0, h1, h2, h3, h4, h5⟩
  rw [e0, e1, e2, e3, e4, e5, z]
theorem drawn7 {c s0 s1 s2 s3 s4 s5 s6 : Int} (h : DrawOk c [s0, s1, s2, s3, s4, s5, s6]) : ∃ d0 d1 d2 d3 d4 d5 d6, v_law_drawn c [s0, s1, s2, s3, s4, s5, s6] = [d0, d1, d2, d3, d4, d5, d6] ∧ (0 ≤ d0 ∧ d0 < s0) ∧ (0 ≤ d1 ∧ d1 < s1) ∧ (0 ≤ d2 ∧ d2 < s2) ∧ (0 ≤ d3 ∧ d3 < s3) ∧ (0 ≤ d4 ∧ d4 < s4) ∧ (0 ≤ d5 ∧ d5 < s5) ∧ (0 ≤ d6 ∧ d6 < s6) := by
  have b0 := drawn_below h
  obtain ⟨d0, t0, e0, h0, b1⟩ := below_cons b0
  obtain ⟨d1, t1, e1, h1, b2⟩ := below_cons b1
  obtain ⟨d2, t2, e2, h2, b3⟩ := below_cons b2
  obtain ⟨d3, t3, e3, h3, b4⟩ := below_cons b3
  obtain ⟨d4, t4, e4, h4, b5⟩ := below_cons b4
  obtain ⟨d5, t5, e5, h5, b6⟩ := below_cons b5
  obtain ⟨d6, t6, e6, h6, b7⟩ := below_cons b6
  have z := below_nil b7
  refine ⟨d0, d1, d2, d3, d4, d5, d6, ?_, h0, h1, h2, h3, h4, h5, h6⟩
  rw [e0, e1, e2, e3, e4, e5, e6, z]
theorem drawn8 {c s0 s1 s2 s3 s4 s5 s6 s7 : Int} (h : DrawOk c [s0, s1, s2, s3, s4, s5, s6, s7]) : ∃ d0 d1 d2 d3 d4 d5 d6 d7, v_law_drawn c [s0, s1, s2, s3, s4, s5, s6, s7] = [d0, d1, d2, d3, d4, d5, d6, d7] ∧ (0 ≤ d0 ∧ d0 < s0) ∧ (0 ≤ d1 ∧ d1 < s1) ∧ (0 ≤ d2 ∧ d2 < s2) ∧ (0 ≤ d3 ∧ d3 < s3) ∧ (0 ≤ d4 ∧ d4 < s4) ∧ (0 ≤ d5 ∧ d5 < s5) ∧ (0 ≤ d6 ∧ d6 < s6) ∧ (0 ≤ d7 ∧ d7 < s7) := by
  have b0 := drawn_below h
  obtain ⟨d0, t0, e0, h0, b1⟩ := below_cons b0
  obtain ⟨d1, t1, e1, h1, b2⟩ := below_cons b1
  obtain ⟨d2, t2, e2, h2, b3⟩ := below_cons b2
  obtain ⟨d3, t3, e3, h3, b4⟩ := below_cons b3
  obtain ⟨d4, t4, e4, h4, b5⟩ := below_cons b4
  obtain ⟨d5, t5, e5, h5, b6⟩ := below_cons b5
  obtain ⟨d6, t6, e6, h6, b7⟩ := below_cons b6
  obtain ⟨d7, t7, e7, h7, b8⟩ := below_cons b7
  have z := below_nil b8
  refine ⟨d0, d1, d2, d3, d4, d5, d6, d7, ?_, h0, h1, h2, h3, h4, h5, h6, h7⟩
  rw [e0, e1, e2, e3, e4, e5, e6, e7, z]
theorem drawn9 {c s0 s1 s2 s3 s4 s5 s6 s7 s8 : Int} (h : DrawOk c [s0, s1, s2, s3, s4, s5, s6, s7, s8]) : ∃ d0 d1 d2 d3 d4 d5 d6 d7 d8, v_law_drawn c [s0, s1, s2, s3, s4, s5, s6, s7, s8] = [d0, d1, d2, d3, d4, d5, d6, d7, d8] ∧ (0 ≤ d0 ∧ d0 < s0) ∧ (0 ≤ d1 ∧ d1 < s1) ∧ (0 ≤ d2 ∧ d2 < s2) ∧ (0 ≤ d3 ∧ d3 < s3) ∧ (0 ≤ d4 ∧ d4 < s4) ∧ (0 ≤ d5 ∧ d5 < s5) ∧ (0 ≤ d6 ∧ d6 < s6) ∧ (0 ≤ d7 ∧ d7 < s7) ∧ (0 ≤ d8 ∧ d8 < s8) := by
  have b0 := drawn_below h
  obtain ⟨d0, t0, e0, h0, b1⟩ := below_cons b0
  obtain ⟨d1, t1, e1, h1, b2⟩ := below_cons b1
  obtain ⟨d2, t2, e2, h2, b3⟩ := below_cons b2
  obtain ⟨d3, t3, e3, h3, b4⟩ := below_cons b3
  obtain ⟨d4, t4, e4, h4, b5⟩ := below_cons b4
  obtain ⟨d5, t5, e5, h5, b6⟩ := below_cons b5
  obtain ⟨d6, t6, e6, h6, b7⟩ := below_cons b6
  obtain ⟨d7, t7, e7, h7, b8⟩ := below_cons b7
  obtain ⟨d8, t8, e8, h8, b9⟩ := below_cons b8
  have z := below_nil b9
  refine ⟨d0, d1, d2, d3, d4, d5, d6, d7, d8, ?_, h0, h1, h2, h3, h4, h5, h6, h7, h8⟩
  rw [e0, e1, e2, e3, e4, e5, e6, e7, e8, z]
theorem drawn10 {c s0 s1 s2 s3 s4 s5 s6 s7 s8 s9 : Int} (h : DrawOk c [s0, s1, s2, s3, s4, s5, s6, s7, s8, s9]) : ∃ d0 d1 d2 d3 d4 d5 d6 d7 d8 d9, v_law_drawn c [s0, s1, s2, s3, s4, s5, s6, s7, s8, s9] = [d0, d1, d2, d3, d4, d5, d6, d7, d8, d9] ∧ (0 ≤ d0 ∧ d0 < s0) ∧ (0 ≤ d1 ∧ d1 < s1) ∧ (0 ≤ d2 ∧ d2 < s2) ∧ (0 ≤ d3 ∧ d3 < s3) ∧ (0 ≤ d4 ∧ d4 < s4) ∧ (0 ≤ d5 ∧ d5 < s5) ∧ (0 ≤ d6 ∧ d6 < s6) ∧ (0 ≤ d7 ∧ d7 < s7) ∧ (0 ≤ d8 ∧ d8 < s8) ∧ (0 ≤ d9 ∧ d9 < s9) := by
  have b0 := drawn_below h
  obtain ⟨d0, t0, e0, h0, b1⟩ := below_cons b0
  obtain ⟨d1, t1, e1, h1, b2⟩ := below_cons b1
  obtain ⟨d2, t2, e2, h2, b3⟩ := below_cons b2
  obtain ⟨d3, t3, e3, h3, b4⟩ := below_cons b3
  obtain ⟨d4, t4, e4, h4, b5⟩ := below_cons b4
  obtain ⟨d5, t5, e5, h5, b6⟩ := below_cons b5
  obtain ⟨d6, t6, e6, h6, b7⟩ := below_cons b6
  obtain ⟨d7, t7, e7, h7, b8⟩ := below_cons b7
  obtain ⟨d8, t8, e8, h8, b9⟩ := below_cons b8
  obtain ⟨d9, t9, e9, h9, b10⟩ := below_cons b9
  have z := below_nil b10
  refine ⟨d0, d1, d2, d3, d4, d5, d6, d7, d8, d9, ?_, h0, h1, h2, h3, h4, h5, h6, h7, h8, h9⟩
  rw [e0, e1, e2, e3, e4, e5, e6, e7, e8, e9, z]
theorem drawn11 {c s0 s1 s2 s3 s4 s5 s6 s7 s8 s9 s10 : Int} (h : DrawOk c [s0, s1, s2, s3, s4, s5, s6, s7, s8, s9, s10]) : ∃ d0 d1 d2 d3 d4 d5 d6 d7 d8 d9 d10, v_law_drawn c [s0, s1, s2, s3, s4, s5, s6, s7, s8, s9, s10] = [d0, d1, d2, d3, d4, d5, d6, d7, d8, d9, d10] ∧ (0 ≤ d0 ∧ d0 < s0) ∧ (0 ≤ d1 ∧ d1 < s1) ∧ (0 ≤ d2 ∧ d2 < s2) ∧ (0 ≤ d3 ∧ d3 < s3) ∧ (0 ≤ d4 ∧ d4 < s4) ∧ (0 ≤ d5 ∧ d5 < s5) ∧ (0 ≤ d6 ∧ d6 < s6) ∧ (0 ≤ d7 ∧ d7 < s7) ∧ (0 ≤ d8 ∧ d8 < s8) ∧ (0 ≤ d9 ∧ d9 < s9) ∧ (0 ≤ d10 ∧ d10 < s10) := by
  have b0 := drawn_below h
  obtain ⟨d0, t0, e0, h0, b1⟩ := below_cons b0
  obtain ⟨d1, t1, e1, h1, b2⟩ := below_cons b1
  obtain ⟨d2, t2, e2, h2, b3⟩ := below_cons b2
  obtain ⟨d3, t3, e3, h3, b4⟩ := below_cons b3
  obtain ⟨d4, t4, e4, h4, b5⟩ := below_cons b4
  obtain ⟨d5, t5, e5, h5, b6⟩ := below_cons b5
  obtain ⟨d6, t6, e6, h6, b7⟩ := below_cons b6
  obtain ⟨d7, t7, e7, h7, b8⟩ := below_cons b7
  obtain ⟨d8, t8, e8, h8, b9⟩ := below_cons b8
  obtain ⟨d9, t9, e9, h9, b10⟩ := below_cons b9
  obtain ⟨d10, t10, e10, h10, b11⟩ := below_cons b10
  have z := below_nil b11
  refine ⟨d0, d1, d2, d3, d4, d5, d6, d7, d8, d9, d10, ?_, h0, h1, h2, h3, h4, h5, h6, h7, h8, h9, h10⟩
  rw [e0, e1, e2, e3, e4, e5, e6, e7, e8, e9, e10, z]
theorem drawn12 {c s0 s1 s2 s3 s4 s5 s6 s7 s8 s9 s10 s11 : Int} (h : DrawOk c [s0, s1, s2, s3, s4, s5, s6, s7, s8, s9, s10, s11]) : ∃ d0 d1 d2 d3 d4 d5 d6 d7 d8 d9 d10 d11, v_law_drawn c [s0, s1, s2, s3, s4, s5, s6, s7, s8, s9, s10, s11] = [d0, d1, d2, d3, d4, d5, d6, d7, d8, d9, d10, d11] ∧ (0 ≤ d0 ∧ d0 < s0) ∧ (0 ≤ d1 ∧ d1 < s1) ∧ (0 ≤ d2 ∧ d2 < s2) ∧ (0 ≤ d3 ∧ d3 < s3) ∧ (0 ≤ d4 ∧ d4 < s4) ∧ (0 ≤ d5 ∧ d5 < s5) ∧ (0 ≤ d6 ∧ d6 < s6) ∧ (0 ≤ d7 ∧ d7 < s7) ∧ (0 ≤ d8 ∧ d8 < s8) ∧ (0 ≤ d9 ∧ d9 < s9) ∧ (0 ≤ d10 ∧ d10 < s10) ∧ (0 ≤ d11 ∧ d11 < s11) := by
  have b0 := drawn_below h
  obtain ⟨d0, t0, e0, h0, b1⟩ := below_cons b0
  obtain ⟨d1, t1, e1, h1, b2⟩ := below_cons b1
  obtain ⟨d2, t2, e2, h2, b3⟩ := below_cons b2
  obtain ⟨d3, t3, e3, h3, b4⟩ := below_cons b3
  obtain ⟨d4, t4, e4, h4, b5⟩ := below_cons b4
  obtain ⟨d5, t5, e5, h5, b6⟩ := below_cons b5
  obtain ⟨d6, t6, e6, h6, b7⟩ := below_cons b6
  obtain ⟨d7, t7, e7, h7, b8⟩ := below_cons b7
  obtain ⟨d8, t8, e8, h8, b9⟩ := below_cons b8
  obtain ⟨d9, t9, e9, h9, b10⟩ := below_cons b9
  obtain ⟨d10, t10, e10, h10, b11⟩ := below_cons b10
  obtain ⟨d11, t11, e11, h11, b12⟩ := below_cons b11
  have z := below_nil b12
  refine ⟨d0, d1, d2, d3, d4, d5, d6, d7, d8, d9, d10, d11, ?_, h0, h1, h2, h3, h4, h5, h6, h7, h8, h9, h10, h11⟩
  rw [e0, e1, e2, e3, e4, e5, e6, e7, e8, e9, e10, e11, z]
end BW

set_option Elab.async false
set_option linter.all false
set_option maxRecDepth 100000
set_option maxHeartbeats 4000000
/-! Lists by places. -/
namespace BW
open PySem L2
theorem getD_map_range {t : Type} (f : Int → t) (d : t) (n k : Nat) (h : k < n) : ((pyRange 0 n).map f).getD k d = f k := by
  rw [List.getD_eq_getElem?_getD, List.getElem?_map, pyRange_get h]
  simp
theorem get_map_range {t : Type} (f : Int → t) (d : t) (n : Nat) (k : Int) (h0 : 0 ≤ k) (h : k < n) : pyGet d ((pyRange 0 n).map f) k = f k := by
  rw [pyGet_pos d _ k h0, getD_map_range f d n k.toNat (by omega)]
  congr 1
  omega
theorem map_range_len {t : Type} (f : Int → t) (n : Nat) : ((pyRange 0 n).map f).length = n := by rw [List.length_map, pyRange_len]
theorem nodup_pyRange (lo : Int) (n : Nat) : (pyRange lo n).Nodup := by
  unfold pyRange
  unfold List.Nodup
  rw [List.pairwise_map]
  refine List.Pairwise.imp ?_ List.nodup_range
  intro a b h
  omega
/-- lists of one length with the same things at the same places -/
theorem list_ext {t : Type} (d : t) {xs ys : List t} (hl : xs.length = ys.length) (h : ∀ k : Int, 0 ≤ k → k < xs.length → pyGet d xs k = pyGet d ys k) : xs = ys := by
  refine List.ext_getElem hl fun i h1 h2 => ?_
  have := h (i : Int) (by omega) (by omega)
  rw [pyGet_nat, pyGet_nat, List.getD_eq_getElem?_getD, List.getD_eq_getElem?_getD, List.getElem?_eq_getElem h1, List.getElem?_eq_getElem h2] at this
  exact this
theorem pySet_at {t : Type} {xs : List t} {i : Int} {x : t} (h0 : 0 ≤ i) (h : i < xs.length) : pySet xs i x = xs.set i.toNat x := by
  unfold pySet ixN
  rw [if_pos h0, if_pos h]
theorem pySet_len {t : Type} (xs : List t) (i : Int) (x : t) : (pySet xs i x).length = xs.length := by
  unfold pySet
  split <;> simp
theorem get_pySet {t : Type} (d : t) {xs : List t} {i : Int} {x : t} (h0 : 0 ≤ i) (h : i < xs.length) (k : Int) (hk : 0 ≤ k) : pyGet d (pySet xs i x) k = if k = i then x else pyGet d xs k := by
  rw [pySet_at h0 h, pyGet_pos d _ k hk, pyGet_pos d _ k hk, List.getD_eq_getElem?_getD, List.getElem?_set]
  by_cases e : k = i
  · subst e
    rw [if_pos rfl, if_pos (by omega), if_pos rfl]
    rfl
  · rw [if_neg (by omega), if_neg e, List.getD_eq_getElem?_getD]
theorem pySlice_lits {t : Type} (xs : List t) (m n : Nat) : pySlice xs (some (no_index (OfNat.ofNat m : Int))) (some (no_index (OfNat.ofNat n : Int))) = (xs.take (OfNat.ofNat n)).drop (OfNat.ofNat m) := pySlice_nat xs m n
/-- how many places are among some -/
theorem count_mem (ps : List Int) (n : Nat) (hn : ps.Nodup) (hp : ∀ p ∈ ps, 0 ≤ p ∧ p < n) : ((pyRange 0 n).filter (fun k => ps.contains k)).length = ps.length := by
  refine List.Perm.length_eq ((List.perm_ext_iff_of_nodup ?_ hn).mpr fun a => ?_)
  · exact List.Pairwise.filter _ (nodup_pyRange 0 n)
  · rw [List.mem_filter, mem_pyRange]
    constructor
    · rintro ⟨_, h⟩
      simpa using h
    · intro h
      have := hp a h
      exact ⟨⟨by omega, by omega⟩, by simpa using h⟩
theorem filter_range_congr {n : Nat} {f g : Int → Bool} (h : ∀ k : Int, 0 ≤ k → k < n → f k = g k) : (pyRange 0 n).filter f = (pyRange 0 n).filter g :=
  List.filter_congr fun x hx => by
    have := mem_pyRange.mp hx
    exact h x this.1 (by omega)
theorem foldl_keep {L t : Type} (f : L → t → L) (xs : List t) (s : L) : (xs.foldl (fun s x => f s x) s) = xs.foldl f s := rfl
/-- one bit -/
theorem and1 (z : Int) : Builtin.bitAnd z 1 = z % 2 := PyProof.Rows.bitAnd_m1 z
/-- an open place of a short list -/
theorem pick2 {t : Type} {dd x y : t} {i : Int} (h : 0 ≤ i ∧ i < 2) (P : t → Prop) (hx : P x) (hy : P y) : P (pyGet dd [x, y] i) := by
  have e : i = 0 ∨ i = 1 := by omega
  rcases e with e | e <;> subst e <;> simpa
theorem pick3 {t : Type} {dd x y z : t} {i : Int} (h : 0 ≤ i ∧ i < 3) (P : t → Prop) (hx : P x) (hy : P y) (hz : P z) : P (pyGet dd [x, y, z] i) := by
  have e : i = 0 ∨ i = 1 ∨ i = 2 := by omega
  rcases e with e | e | e <;> subst e <;> simpa
theorem pick4 {t : Type} {dd x y z u : t} {i : Int} (h : 0 ≤ i ∧ i < 4) (P : t → Prop) (hx : P x) (hy : P y) (hz : P z) (hu : P u) : P (pyGet dd [x, y, z, u] i) := by
  have e : i = 0 ∨ i = 1 ∨ i = 2 ∨ i = 3 := by omega
  rcases e with e | e | e | e <;> subst e <;> simpa
theorem pyRange_last (lo : Int) (n : Nat) (h : 0 < n) : pyGet 0 (pyRange lo n) (-1) = lo + n - 1 := by
  rw [pyGet_neg 0 _ _ (by decide) (by rw [pyRange_len]; omega), pyRange_len, List.getD_eq_getElem?_getD, pyRange_get (by omega)]
  simp
  omega
theorem pyRange_first (lo : Int) (n : Nat) (h : 0 < n) : (pyRange lo n).getD 0 0 = lo := by
  rw [List.getD_eq_getElem?_getD, pyRange_get h]
  simp
theorem pick_mem {t : Type} {dd : t} {xs : List t} {i : Int} (P : t → Prop) (h0 : 0 ≤ i) (h : i < xs.length) (hall : ∀ x ∈ xs, P x) : P (pyGet dd xs i) := hall _ (pyGet_mem dd xs i (ixOk_of h0 h))
theorem pyGet_map {t u : Type} {d : t} {d' : u} {xs : List t} {i : Int} (f : t → u) (h : IxOk xs.length i) : pyGet d' (xs.map f) i = f (pyGet d xs i) := by
  obtain ⟨j, e, hj⟩ := ixN_some h
  unfold pyGet
  rw [List.length_map, e]
  simp [hj]
theorem loop_all {t B R : Type} {p : t → Prop} {f : Unit → t → Out Unit Unit R} {xs : List t} (h : ∀ x ∈ xs, p x ∧ f () x = .fall ()) :
    loopP (fun _ x => p x) f () xs ∧ (loopL f () xs : Out Unit B R) = .fall () := loop_unit (p := fun _ x => p x) h
theorem OKK.b {S B R T : Type} {p : Prop} {P : T → Prop} {o1 : Out T B R} {O : T → Out S B R} {q : Out S B R} {x : T} (hp : p) (h1 : o1 = .fall x) (h : OKK (P x) (O x) q) : OKK (p ∧ o1.Then P) (o1.bind O) q := by
  subst h1
  exact ⟨⟨hp, h.1⟩, h.2⟩
theorem OKK.b1 {S B R T : Type} {P : T → Prop} {o1 : Out T B R} {O : T → Out S B R} {q : Out S B R} {x : T} (h1 : o1 = .fall x) (h : OKK (P x) (O x) q) : OKK (o1.Then P) (o1.bind O) q := by
  subst h1
  exact h
theorem OKK.f {S B R L t : Type} {P : L → t → Prop} {f : L → t → L} {s0 : L} {xs : List t} {v : L} {Q : L → Prop} {O : L → Out S B R} {q : Out S B R} {A : Prop} (hA : A) (h : foldP P f s0 xs ∧ xs.foldl f s0 = v) (k : OKK (Q v) (O v) q) : OKK ((A ∧ foldP P f s0 xs) ∧ lt (xs.foldl f s0) Q) (lt (xs.foldl f s0) O) q := by
  rw [h.2]
  exact .a ⟨hA, h.1⟩ k
theorem OKK.f0 {S B R L t : Type} {P : L → t → Prop} {f : L → t → L} {s0 : L} {xs : List t} {v : L} {Q : L → Prop} {O : L → Out S B R} {q : Out S B R} (h : foldP P f s0 xs ∧ xs.foldl f s0 = v) (k : OKK (Q v) (O v) q) : OKK (foldP P f s0 xs ∧ lt (xs.foldl f s0) Q) (lt (xs.foldl f s0) O) q := by
  rw [h.2]
  exact .a h.1 k
end BW

set_option Elab.async false
set_option linter.all false
set_option maxRecDepth 100000
set_option maxHeartbeats 4000000
/-! Forms, ears, levels. -/
namespace BW
open PySem L2
theorem none_even : sNone ≠ sEven := by decide +kernel
theorem none_odd : sNone ≠ sOdd := by decide +kernel
theorem even_odd : sEven ≠ sOdd := by decide +kernel
theorem nice_law_form (n : Int) (_ : True) : p_law_form n ∧ v_law_form n = formOf n := by
  refine ⟨?_, rfl⟩
  unfold p_law_form
  simp only [IxOk, List.length_cons, List.length_nil]
  omega
theorem form_ok (n : Int) : FormOk (formOf n) := by
  refine ⟨by simp only [formOf]; omega, ?_⟩
  have e : n / 15 % 3 = 0 ∨ n / 15 % 3 = 1 ∨ n / 15 % 3 = 2 := by omega
  simp only [formOf]
  rcases e with e | e | e <;> rw [e] <;> simp
theorem ear_ok (n : Int) : EarOk (earOf n) := by
  have h1 : 0 ≤ n % 4 ∧ n % 4 ≤ 3 := by omega
  simp only [EarOk, earOf, overOf, leastOf]
  generalize n % 4 = c at h1
  have h2 : 0 < 65 - max 3 (2 * c + 2) := by omega
  have h3 := Int.emod_nonneg (n / 4) (show 65 - max 3 (2 * c + 2) ≠ 0 by omega)
  have h4 := Int.emod_lt_of_pos (n / 4) h2
  generalize n / 4 % (65 - max 3 (2 * c + 2)) = u at h3 h4
  have h5 : 0 < max 3 (2 * c + 2) + u - 2 * c - 1 := by omega
  have h6 := Int.emod_nonneg (n / 260) (show max 3 (2 * c + 2) + u - 2 * c - 1 ≠ 0 by omega)
  have h7 := Int.emod_lt_of_pos (n / 260) h5
  generalize n / 260 % (max 3 (2 * c + 2) + u - 2 * c - 1) = v at h6 h7
  omega
theorem nice_law_ear (n : Int) (_ : True) : p_law_ear n ∧ v_law_ear n = earOf n := by
  refine ⟨?_, rfl⟩
  dsimp only [p_law_ear, lt]
  have h := ear_ok n
  simp only [EarOk, earOf, overOf, leastOf] at h
  have h1 : 0 ≤ n % 4 ∧ n % 4 ≤ 3 := by omega
  generalize n % 4 = c at h1 h
  have h2 : 0 < 65 - max 3 (2 * c + 2) := by omega
  have h3 := Int.emod_nonneg (n / 4) (show 65 - max 3 (2 * c + 2) ≠ 0 by omega)
  generalize n / 4 % (65 - max 3 (2 * c + 2)) = u at h h3
  exact ⟨mulOk_small (by decide) (by omega), by omega, mulOk_small (by decide) (by omega), by omega⟩
theorem bitsOf_len (n w : Int) : (bitsOf n w).length = n.toNat := map_range_len _ _
theorem law_bits (n w : Int) : ((pyRange 0 n.toNat).map fun k : Int => Builtin.bitAnd (w / 2 ^ k.toNat) 1) = bitsOf n w := by
  unfold bitsOf
  congr 1
  funext k
  exact and1 _
theorem nice_law_levels (f : Int × Str) (w : Int) (h : FormOk2 f w) : p_law_levels f w ∧ v_law_levels f w = levels f w := by
  obtain ⟨h1, h2⟩ := h
  have hs := sizeLine_eq
  have hl := bitsOf_len f.1 w
  dsimp only [p_law_levels, v_law_levels, lt]
  rw [law_bits]
  generalize hb : bitsOf f.1 w = bits at hl
  refine ⟨⟨⟨⟨by unfold RgOk; omega, fun x hx => (mem_pyRange.mp hx).1⟩, by rw [LenOk, pyRange_len]; omega⟩, ?_⟩, ?_⟩
  · have e : ∀ c : List Int, c.length ≤ 1 → (([(0 : Int)].length + bits.length ≤ sizeLine ∧ ([(0 : Int)] ++ bits).length + c.length ≤ sizeLine) ∧ (([(0 : Int)] ++ bits) ++ c).length + [(1 : Int)].length ≤ sizeLine) := fun c hc => by
      simp only [List.length_append, List.length_cons, List.length_nil]
      omega
    refine e _ ?_
    split <;> simp
  · unfold levels checksOf checkOf
    rw [hb]
    by_cases e : f.2 = sNone
    · simp [e, sNone]
    · simp [e, sNone, sOdd]
theorem levels_len (f : Int × Str) (w : Int) (h : FormOk f) : ((levels f w).length : Int) = v_size_of f := by
  obtain ⟨h1, h2⟩ := h
  unfold levels checksOf v_size_of
  by_cases e : f.2 = sNone
  · simp [e, sNone, bitsOf_len]
    omega
  · simp [e, sNone, bitsOf_len]
    omega
theorem size_pos (f : Int × Str) (h : FormOk f) : 4 ≤ v_size_of f ∧ v_size_of f ≤ 19 := by
  have h1 := h.1
  unfold v_size_of
  split <;> omega
theorem nice_levels_of (f : Int × Str) (w : Int) (h : FormOk2 f w) : p_levels_of f w ∧ v_levels_of f w = levelsE f w := by
  obtain ⟨h1, h2⟩ := h
  have hs := sizeLine_eq
  have hl := bitsOf_len f.1 w
  have hn : ((1 : Int) * 2 ^ f.1.toNat) = 2 ^ f.1.toNat := Int.one_mul _
  have hc : CPow 1 f.1 := ⟨by omega, by omega, by decide⟩
  have hrg : RgOk f.1 ∧ (∀ x1_ ∈ pyRange 0 f.1.toNat, (0 : Int) ≤ x1_) := ⟨by unfold RgOk; omega, fun x hx => (mem_pyRange.mp hx).1⟩
  have hln : LenOk (pyRange 0 f.1.toNat).length := by rw [LenOk, pyRange_len]; omega
  dsimp only [p_levels_of, v_levels_of, o_levels_of, lt]
  rw [law_bits, hn]
  unfold levelsE levels checksOf
  generalize hb : bitsOf f.1 w = bits at hl
  have l1 : [(0 : Int)].length + bits.length ≤ sizeLine := by simp; omega
  have l2 : ([(0 : Int)] ++ bits).length + [(1 : Int)].length ≤ sizeLine := by simp; omega
  have l3 : ([(0 : Int)] ++ bits).length + [v_check_due f bits, (1 : Int)].length ≤ sizeLine := by simp; omega
  refine ⟨⟨fun _ => hc, fun _ => trivial, fun _ => ⟨⟨hrg, hln⟩, trivial, fun _ => ⟨l1, l2⟩, fun _ => ⟨l1, l3⟩⟩⟩, ?_⟩
  by_cases hw : 0 ≤ w ∧ w < 2 ^ f.1.toNat
  · rw [if_pos hw, if_neg (by simp; omega)]
    by_cases e : f.2 = sNone
    · simp [e, sNone, outV]
    · have hcd : v_check_due f bits = checkOf f bits := by
        dsimp only [v_check_due, checkOf, lt]
        rw [and1]
        have n1 : (sEven = sOdd) = False := eq_false even_odd
        have n2 : (sOdd = sEven) = False := eq_false even_odd.symm
        rcases h2 with z | z | z
        · exact absurd z e
        · rw [z]
          simp [n1, b2I]
        · rw [z]
          simp [n2, b2I]
          omega
      rw [hcd]
      simp [e, sNone, outV]
  · rw [if_neg hw, if_pos (by simp; omega)]
    rfl
theorem nice_asked_of (e : T3 Int Int Int) (l : Int) (h : AskOk e l) : p_asked_of e l ∧ v_asked_of e l = v_asked_of e l := by
  obtain ⟨⟨h1, h2, h3⟩, h4, h5⟩ := h
  have hs := sizeLine_eq
  refine ⟨?_, rfl⟩
  dsimp only [p_asked_of, lt]
  have a1 : 0 ≤ l * e.a := Int.mul_nonneg h4 (by omega)
  have a2 : l * e.a ≤ 2 ^ 40 * 64 := Int.mul_le_mul (by omega) h1.2 (by omega) (by omega)
  refine ⟨mulOk_small (by omega) (by omega), ?_⟩
  generalize l * e.a = m at a1 a2
  unfold RgOk LenOk
  omega
theorem nice_reach (f : Int × Str) (e : T3 Int Int Int) (h : ReachOk f e) : p_reach f e ∧ v_reach f e = v_reach f e := by
  have hs := size_pos f h.1
  have h1 := h.2.1
  exact ⟨mulOk_small (by omega) (by omega), rfl⟩
theorem asked_eq (e : T3 Int Int Int) (l : Int) : v_asked_of e l = pyRange (l * e.a + e.b - e.c) (2 * e.c + 1).toNat := by
  dsimp only [v_asked_of, lt]
  congr 2
  omega
end BW

set_option Elab.async false
set_option linter.all false
set_option maxRecDepth 100000
set_option maxHeartbeats 4000000
/-! Ticks to spare, sure rates. -/
namespace BW
open PySem L2
theorem sizeOf_eq (f : Int × Str) : v_size_of f = sizeOf f := by
  unfold v_size_of sizeOf
  by_cases e : f.2 = sNone
  · simp [e, sNone]
  · simp [e, sNone]
theorem sizeOf_bd (f : Int × Str) (h : FormOk f) : 4 ≤ sizeOf f ∧ sizeOf f ≤ 19 := by
  rw [← sizeOf_eq]
  exact size_pos f h
theorem levels_size (f : Int × Str) (w : Int) (h : FormOk f) : ((levels f w).length : Int) = sizeOf f := by rw [levels_len f w h, sizeOf_eq]
theorem nice_law_asked (e : T3 Int Int Int) (l : Int) (h : AskOk e l) : p_law_asked e l ∧ v_law_asked e l = v_asked_of e l := by
  have hs := sizeLine_eq
  obtain ⟨⟨h1, h2, h3⟩, h4, h5⟩ := h
  refine ⟨⟨⟨⟨mulOk_small (by decide) (by omega), by unfold RgOk; omega⟩, fun x _ => mulOk_small (by omega) (by omega)⟩, by rw [LenOk, pyRange_len]; omega⟩, ?_⟩
  rw [asked_eq]
  dsimp only [v_law_asked, lt]
  unfold pyRange
  rw [List.map_map]
  refine List.map_congr_left fun a _ => ?_
  simp only [Function.comp]
  omega
theorem mul_bd {a b m n : Int} (ha : 0 ≤ a) (hm : a ≤ m) (hb : 0 ≤ b) (hn : b ≤ n) : 0 ≤ a * b ∧ a * b ≤ m * n := ⟨Int.mul_nonneg ha hb, Int.mul_le_mul hm hn hb (by omega)⟩
theorem foldl_snoc {t u : Type} (f : t → u) : ∀ (xs : List t) (s : List u), xs.foldl (fun s x => s ++ [f x]) s = s ++ xs.map f
  | [], s => by simp
  | x :: xs, s => by rw [List.foldl_cons, foldl_snoc f xs, List.map_cons, List.append_assoc]; rfl
/-- a loop that appends -/
theorem fold_snoc {t u : Type} {p : List u → t → Prop} {f : List u → t → List u} (g : t → u) (m : Nat) (xs : List t) (hm : xs.length ≤ m) (h : ∀ s x, x ∈ xs → s.length < m → p s x ∧ f s x = s ++ [g x]) : foldP p f [] xs ∧ xs.foldl f [] = xs.map g := by
  have key : ∀ (ys : List t) (s : List u), (∀ y ∈ ys, y ∈ xs) → s.length + ys.length ≤ m → foldP p f s ys ∧ ys.foldl f s = s ++ ys.map g := by
    intro ys
    induction ys with
    | nil => intro s _ _; exact ⟨trivial, by simp⟩
    | cons y ys ih =>
      intro s hy hl
      rw [List.length_cons] at hl
      obtain ⟨h1, h2⟩ := h s y (hy y List.mem_cons_self) (by omega)
      obtain ⟨i1, i2⟩ := ih (s ++ [g y]) (fun z hz => hy z (List.mem_cons_of_mem y hz)) (by rw [List.length_append]; simp; omega)
      refine ⟨⟨h1, by rw [h2]; exact i1⟩, ?_⟩
      rw [List.foldl_cons, h2, i2, List.map_cons, List.append_assoc]
      rfl
  have := key xs [] (fun _ h => h) (by simpa using hm)
  simpa using this
theorem asked_at (e : T3 Int Int Int) (l : Int) (h : EarOk e) : IxOk (v_asked_of e l).length 0 ∧ IxOk (v_asked_of e l).length (-1) ∧ pyGet 0 (v_asked_of e l) 0 = l * e.a + e.b - e.c ∧ pyGet 0 (v_asked_of e l) (-1) = l * e.a + e.b + e.c := by
  obtain ⟨h1, h2, h3⟩ := h
  rw [asked_eq, pyRange_len]
  refine ⟨ixOk_of (by omega) (by omega), ⟨by omega, by omega⟩, ?_, ?_⟩
  · exact (pyGet_nat 0 _ 0).trans (pyRange_first _ _ (by omega))
  · rw [pyRange_last _ _ (by omega)]
    omega
theorem nice_spare (f : Int × Str) (e : T3 Int Int Int) (step rate : Int) (h : SpareOk f e step rate) : p_spare f e step rate ∧ v_spare f e step rate = spareOf f e step rate := by
  obtain ⟨hf, he, hs, hr⟩ := h
  have hsz := sizeOf_bd f hf
  have hl := sizeLine_eq
  dsimp only [p_spare, v_spare, lt]
  rw [sizeOf_eq]
  unfold spareOf
  refine And.imp (fun z => ⟨by unfold RgOk; omega, z⟩) id (fold_snoc (spareAt e step rate) 19 _ (by rw [pyRange_len]; omega) fun s k hk hlen => ?_)
  have hk := mem_pyRange.mp hk
  obtain ⟨i0, i1, g0, g1⟩ := asked_at e k he
  obtain ⟨h1, h2, h3⟩ := id he
  rw [g0, g1]
  have a1 := mul_bd (a := k) (b := e.a) (m := 19) (n := 64) (by omega) (by omega) (by omega) (by omega)
  generalize hm : k * e.a = m at a1
  refine ⟨⟨⟨he, by omega, by omega⟩, ⟨⟨⟨i0, mulOk_small (by omega) (by omega)⟩, mulOk_small (by omega) (by omega)⟩, mulOk_small (by omega) (by omega), i1, mulOk_small (by omega) (by omega)⟩, by rw [LenOk]; omega⟩, ?_⟩
  rw [spareAt, hm]
theorem nice_is_sure (f : Int × Str) (e : T3 Int Int Int) (step rate : Int) (h : SpareOk f e step rate) : p_is_sure f e step rate ∧ v_is_sure f e step rate = sureB f e step rate := by
  have hsz := sizeOf_bd f h.1
  have hl := sizeLine_eq
  refine ⟨⟨h, ?_⟩, ?_⟩
  · rw [LenOk, spareOf, List.length_map, pyRange_len]; omega
  · unfold v_is_sure sureB
    rw [List.all_map]
    rfl
/-- what is asked of a sure rate, from below and from above -/
def lowAt (e : T3 Int Int Int) (step rate k : Int) : Prop := (k * e.a + e.b + e.c + 1) * step ≤ (k + 1) * rate
def highAt (e : T3 Int Int Int) (step rate k : Int) : Prop := k * rate ≤ (k * e.a + e.b - e.c) * step
theorem sureB_iff (f : Int × Str) (e : T3 Int Int Int) (step rate : Int) : sureB f e step rate = true ↔ ∀ k : Int, 0 ≤ k → k < sizeOf f → highAt e step rate k ∧ lowAt e step rate k := by
  unfold sureB spareOf
  rw [List.all_map, List.all_eq_true]
  constructor
  · intro h k h0 h1
    have e1 : (decide (0 ≤ (spareAt e step rate k).1) && decide (0 ≤ (spareAt e step rate k).2)) = true := h k (mem_pyRange.mpr ⟨h0, by omega⟩)
    rw [Bool.and_eq_true, decide_eq_true_eq, decide_eq_true_eq] at e1
    obtain ⟨x1, x2⟩ := e1
    exact ⟨by have x1 : 0 ≤ (k * e.a + e.b - e.c) * step - k * rate := x1; unfold highAt; omega, by have x2 : 0 ≤ (k + 1) * rate - (k * e.a + e.b + e.c + 1) * step := x2; unfold lowAt; omega⟩
  · intro h k hk
    have hk := mem_pyRange.mp hk
    have this := h k hk.1 (by omega)
    show (decide (0 ≤ (spareAt e step rate k).1) && decide (0 ≤ (spareAt e step rate k).2)) = true
    rw [Bool.and_eq_true, decide_eq_true_eq, decide_eq_true_eq]
    unfold highAt lowAt at this
    exact ⟨by show 0 ≤ (k * e.a + e.b - e.c) * step - k * rate; omega, by show 0 ≤ (k + 1) * rate - (k * e.a + e.b + e.c + 1) * step; omega⟩
theorem ceil_le {x d r : Int} (hd : 0 < d) : -(-x / d) ≤ r ↔ x ≤ d * r := by
  have h1 : d * (-x / d) + -x % d = -x := Int.mul_ediv_add_emod _ _
  have h2 := Int.emod_nonneg (-x) (show d ≠ 0 by omega)
  have h3 := Int.emod_lt_of_pos (-x) hd
  generalize -x / d = q at *
  constructor
  · intro h
    have := Int.mul_le_mul_of_nonneg_left (show -q ≤ r by omega) (show 0 ≤ d by omega)
    rw [Int.mul_neg] at this
    omega
  · intro h
    by_cases g : -q ≤ r
    · exact g
    · have := Int.mul_le_mul_of_nonneg_left (show r + 1 ≤ -q by omega) (show 0 ≤ d by omega)
      rw [Int.mul_neg, Int.mul_add, Int.mul_one] at this
      omega
theorem le_floor {x d r : Int} (hd : 0 < d) : r ≤ x / d ↔ d * r ≤ x := by
  rw [Int.le_ediv_iff_mul_le hd, Int.mul_comm]
/-- the least and the greatest sure rates -/
theorem law_sure_spec (f : Int × Str) (e : T3 Int Int Int) (step : Int) (h : SureOk f e step) : p_law_sure f e step ∧
    (∀ r : Int, (v_law_sure f e step).1 ≤ r ↔ 1 ≤ r ∧ ∀ k : Int, 0 ≤ k → k < sizeOf f → lowAt e step r k) ∧
    (∀ r : Int, r ≤ (v_law_sure f e step).2 ↔ r ≤ e.a * step * 2 ∧ ∀ k : Int, 0 < k → k < sizeOf f → highAt e step r k) := by
  obtain ⟨hf, he, hs⟩ := h
  have hsz := sizeOf_bd f hf
  dsimp only [p_law_sure, v_law_sure, lt]
  rw [levels_size f 0 hf]
  have mk : ∀ u v : Int, -10 ^ 30 < u → u < 10 ^ 30 → -10 ^ 30 < v → v < 10 ^ 30 → MulOk u v := fun u v a b c d => mulOk_small (by omega) (by omega)
  have key : ∀ n : Nat, (n : Int) ≤ sizeOf f → ∀ (P : Int × Int → Int → Prop) (F : Int × Int → Int → Int × Int),
      (∀ s (k : Int), 0 ≤ k → k < sizeOf f → P s k ∧ (∀ r, (F s k).1 ≤ r ↔ s.1 ≤ r ∧ lowAt e step r k) ∧ (∀ r, r ≤ (F s k).2 ↔ r ≤ s.2 ∧ (0 < k → highAt e step r k))) →
      foldP P F (1, e.a * step * 2) (pyRange 0 n) ∧ (∀ r : Int, ((pyRange 0 n).foldl F (1, e.a * step * 2)).1 ≤ r ↔ 1 ≤ r ∧ ∀ k : Int, 0 ≤ k → k < n → lowAt e step r k) ∧
        (∀ r : Int, r ≤ ((pyRange 0 n).foldl F (1, e.a * step * 2)).2 ↔ r ≤ e.a * step * 2 ∧ ∀ k : Int, 0 < k → k < n → highAt e step r k) := by
    intro n hn P F hF
    induction n with
    | zero => exact ⟨trivial, fun r => ⟨fun z => ⟨z, fun k h0 h1 => by omega⟩, fun z => z.1⟩, fun r => ⟨fun z => ⟨z, fun k h0 h1 => by omega⟩, fun z => z.1⟩⟩
    | succ n ih =>
      obtain ⟨i1, i2, i3⟩ := ih (by omega)
      rw [pyRange_succ, foldP_append, List.foldl_append]
      have e0 : (0 : Int) + (n : Int) = n := by omega
      rw [e0]
      obtain ⟨q1, q2, q3⟩ := hF ((pyRange 0 n).foldl F (1, e.a * step * 2)) n (by omega) (by omega)
      refine ⟨⟨i1, q1, trivial⟩, fun r => ?_, fun r => ?_⟩
      · rw [List.foldl_cons, List.foldl_nil, q2 r, i2 r]
        constructor
        · rintro ⟨⟨a1, a2⟩, a3⟩
          refine ⟨a1, fun k h0 h1 => ?_⟩
          by_cases z : k = n
          · rw [z]; exact a3
          · exact a2 k h0 (by omega)
        · rintro ⟨a1, a2⟩
          exact ⟨⟨a1, fun k h0 h1 => a2 k h0 (by omega)⟩, a2 n (by omega) (by omega)⟩
      · rw [List.foldl_cons, List.foldl_nil, q3 r, i3 r]
        constructor
        · rintro ⟨⟨a1, a2⟩, a3⟩
          refine ⟨a1, fun k h0 h1 => ?_⟩
          by_cases z : k = n
          · rw [z]; exact a3 (by omega)
          · exact a2 k h0 (by omega)
        · rintro ⟨a1, a2⟩
          exact ⟨⟨a1, fun k h0 h1 => a2 k h0 (by omega)⟩, fun z => a2 n z (by omega)⟩
  obtain ⟨n, hn⟩ : ∃ n : Nat, sizeOf f = (n : Int) := ⟨(sizeOf f).toNat, by omega⟩
  have key2 := key n (by omega)
  rw [hn] at key2 hsz ⊢
  rw [Int.toNat_natCast]
  have b1 := mul_bd (a := e.a) (b := step) (m := 64) (n := 10 ^ 13) (by have := he.1; omega) he.1.2 (by omega) hs.2
  obtain ⟨h1, h2, h3⟩ := id he
  refine And.imp (fun z => ⟨⟨mk _ _ (by omega) (by omega) (by omega) (by omega), mk _ _ (by omega) (by omega) (by omega) (by omega)⟩, ⟨hf, by unfold RgOk; omega⟩, z⟩) id (key2 _ _ fun s k k0 k1 => ?_)
  have a1 := mul_bd (a := k) (b := e.a) (m := 19) (n := 64) (by omega) (by omega) (by omega) (by omega)
  have hlow : ∀ r, lowAt e step r k ↔ (k * e.a + e.b + e.c + 1) * step ≤ (k + 1) * r := fun r => Iff.rfl
  have hhigh : ∀ r, highAt e step r k ↔ k * r ≤ (k * e.a + e.b - e.c) * step := fun r => Iff.rfl
  have m0 := mk k e.a (by omega) (by omega) (by omega) (by omega)
  generalize k * e.a = m at a1 hlow hhigh m0
  have m1 := mk (-(m + e.b + e.c + 1)) step (by omega) (by omega) (by omega) (by omega)
  have m2 := mk (m + e.b - e.c) step (by omega) (by omega) (by omega) (by omega)
  refine ⟨⟨⟨⟨m0, m1⟩, divOk_small (by omega) (by omega)⟩, fun hk => ⟨⟨m0, m2⟩, ?_⟩⟩, fun r => ?_, fun r => ?_⟩
  · rw [decide_eq_true_eq] at hk
    exact divOk_small hk (by omega)
  · rw [hlow, ← ceil_le (show 0 < k + 1 by omega), Int.neg_mul]
    show max s.1 _ ≤ r ↔ _
    omega
  · rw [hhigh]
    by_cases hk : 0 < k
    · rw [← le_floor hk]
      show r ≤ (if (decide (0 < k)) = true then _ else _) ↔ _
      rw [if_pos (by rw [decide_eq_true_eq]; exact hk)]
      omega
    · show r ≤ (if (decide (0 < k)) = true then _ else _) ↔ _
      rw [if_neg (by rw [decide_eq_true_eq]; exact hk)]
      exact ⟨fun z => ⟨z, fun w => absurd w hk⟩, fun z => z.1⟩
theorem nice_law_sure (f : Int × Str) (e : T3 Int Int Int) (step : Int) (h : SureOk f e step) : p_law_sure f e step ∧ v_law_sure f e step = v_law_sure f e step := ⟨(law_sure_spec f e step h).1, rfl⟩
/-- the ear's own rate is sure -/
theorem sure_mid (f : Int × Str) (e : T3 Int Int Int) (step : Int) (h : SureOk f e step) : 1 ≤ (v_law_sure f e step).1 ∧ (v_law_sure f e step).1 ≤ e.a * step ∧ e.a * step ≤ (v_law_sure f e step).2 ∧ (v_law_sure f e step).2 ≤ e.a * step * 2 := by
  obtain ⟨_, h2, h3⟩ := law_sure_spec f e step h
  obtain ⟨hf, ⟨e1, e2, e3⟩, hs⟩ := h
  have b1 := mul_bd (a := e.a) (b := step) (m := 64) (n := 10 ^ 13) (by omega) (by omega) (by omega) hs.2
  refine ⟨((h2 _).mp (Int.le_refl _)).1, (h2 _).mpr ⟨?_, fun k k0 k1 => ?_⟩, (h3 _).mpr ⟨by omega, fun k k0 k1 => ?_⟩, ((h3 _).mp (Int.le_refl _)).1⟩
  · have := Int.mul_le_mul (show (1 : Int) ≤ e.a by omega) hs.1 (by omega) (by omega)
    omega
  · unfold lowAt
    rw [← Int.mul_assoc]
    refine Int.mul_le_mul_of_nonneg_right ?_ (by omega)
    rw [Int.add_mul, Int.one_mul]
    omega
  · unfold highAt
    rw [← Int.mul_assoc]
    exact Int.mul_le_mul_of_nonneg_right (by omega) (by omega)
end BW

set_option Elab.async false
set_option linter.all false
set_option maxRecDepth 100000
set_option maxHeartbeats 4000000
/-! What is asked, and what comes of it: rules for proofs about mirrors. -/
namespace BW
open PySem L2
/-- what is asked holds, and the value is such -/
def PQ {t : Type} (p : Prop) (v : t) (Q : t → Prop) : Prop := p ∧ Q v
section
variable {t u : Type} {Q : t → Prop}
theorem PQ.i {p : Prop} {v : t} (h : PQ p v Q) : p ∧ Q v := h
theorem PQ.eq {p : Prop} {v w : t} (h : PQ p v (· = w)) : p ∧ v = w := h
theorem PQ.o {p : Prop} {v : t} (h : p ∧ Q v) : PQ p v Q := h
theorem PQ.mono {p : Prop} {v : t} {Q' : t → Prop} (h : PQ p v Q') (k : ∀ x, Q' x → Q x) : PQ p v Q := ⟨h.1, k _ h.2⟩
theorem PQ.l {e : u} {P : u → Prop} {V : u → t} (h : ∀ x, x = e → PQ (P x) (V x) Q) : PQ (lt e P) (lt e V) Q := h e rfl
theorem PQ.r {e : u} {p : Prop} {V : u → t} (h : ∀ x, x = e → PQ p (V x) Q) : PQ p (lt e V) Q := h e rfl
theorem PQ.a {p p' : Prop} {v : t} (hp : p) (h : PQ p' v Q) : PQ (p ∧ p') v Q := ⟨⟨hp, h.1⟩, h.2⟩
theorem PQ.al {e : u} {p : Prop} {P : u → Prop} {V : u → t} (hp : p) (h : ∀ x, x = e → PQ (P x) (V x) Q) : PQ (p ∧ lt e P) (lt e V) Q := .a hp (.l h)
theorem PQ.ar {e : u} {p : Prop} {V : u → t} (hp : p) (h : ∀ x, x = e → Q (V x)) : PQ p (lt e V) Q := ⟨hp, h e rfl⟩
theorem PQ.tv {v : t} (h : Q v) : PQ True v Q := ⟨trivial, h⟩
theorem PQ.pv {p : Prop} {v : t} (hp : p) (h : Q v) : PQ p v Q := ⟨hp, h⟩
/-- both ways -/
theorem PQ.ite {b : Bool} {pc p1 p2 : Prop} {v1 v2 : t} (hc : pc) (h1 : b = true → PQ p1 v1 Q) (h2 : b = false → PQ p2 v2 Q) : PQ (pc ∧ (b = true → p1) ∧ (b = false → p2)) (if b = true then v1 else v2) Q := by
  cases b
  · exact ⟨⟨hc, nofun, fun _ => (h2 rfl).1⟩, (h2 rfl).2⟩
  · exact ⟨⟨hc, fun _ => (h1 rfl).1, nofun⟩, (h1 rfl).2⟩
theorem PQ.ite2 {b : Bool} {p2 : Prop} {v1 v2 : t} (h1 : b = true → Q v1) (h2 : b = false → PQ p2 v2 Q) : PQ (b = false → p2) (if b = true then v1 else v2) Q := by
  cases b
  · exact ⟨fun _ => (h2 rfl).1, (h2 rfl).2⟩
  · exact ⟨nofun, h1 rfl⟩
theorem PQ.ite1 {b : Bool} {p1 : Prop} {v1 v2 : t} (h1 : b = true → PQ p1 v1 Q) (h2 : b = false → Q v2) : PQ (b = true → p1) (if b = true then v1 else v2) Q := by
  cases b
  · exact ⟨nofun, h2 rfl⟩
  · exact ⟨fun _ => (h1 rfl).1, (h1 rfl).2⟩
theorem PQ.itec {b : Bool} {pc : Prop} {v1 v2 : t} (hc : pc) (h1 : b = true → Q v1) (h2 : b = false → Q v2) : PQ pc (if b = true then v1 else v2) Q := by
  cases b
  · exact ⟨hc, h2 rfl⟩
  · exact ⟨hc, h1 rfl⟩
/-- one way known -/
theorem PQ.no {b : Bool} {pc p1 p2 : Prop} {v1 v2 : t} (hb : b = false) (hc : pc) (h2 : PQ p2 v2 Q) : PQ (pc ∧ (b = true → p1) ∧ (b = false → p2)) (if b = true then v1 else v2) Q := .ite hc (fun z => by rw [hb] at z; cases z) fun _ => h2
theorem PQ.yes {b : Bool} {pc p1 p2 : Prop} {v1 v2 : t} (hb : b = true) (hc : pc) (h1 : PQ p1 v1 Q) : PQ (pc ∧ (b = true → p1) ∧ (b = false → p2)) (if b = true then v1 else v2) Q := .ite hc (fun _ => h1) fun z => by rw [hb] at z; cases z
theorem PQ.no2 {b : Bool} {p2 : Prop} {v1 v2 : t} (hb : b = false) (h2 : PQ p2 v2 Q) : PQ (b = false → p2) (if b = true then v1 else v2) Q := .ite2 (fun z => by rw [hb] at z; cases z) fun _ => h2
end
/-- how a block ends: what is asked of each end -/
def OQ {S B R : Type} (F : S → Prop) (C K : B → Prop) (T : R → Prop) (X : Str → Prop) : Out S B R → Prop
  | .fall s => F s
  | .cnt b => C b
  | .brk b => K b
  | .ret r => T r
  | .exc c => X c
theorem loop_test {t : Type} {p : Unit → t → Prop} {f : Unit → t → Out Unit Unit Bool} (b : t → Bool) (xs : List t) (h : ∀ x ∈ xs, p () x ∧ f () x = if b x = true then .ret false else .fall ()) :
    loopP p f () xs ∧ valD (loopL f () xs : Out Unit Empty Bool) false (fun _ => true) = xs.all (fun x => !b x) := by
  induction xs with
  | nil => exact ⟨trivial, rfl⟩
  | cons x xs ih =>
    obtain ⟨h1, h2⟩ := h x List.mem_cons_self
    obtain ⟨i1, i2⟩ := ih fun y hy => h y (List.mem_cons_of_mem x hy)
    constructor
    · show p () x ∧ stepP (f () x) fun s => loopP p f s xs
      rw [h2]
      refine ⟨h1, ?_⟩
      cases hb : b x
      · exact i1
      · exact trivial
    · show valD (stepO (f () x) (fun s => loopL f s xs) : Out Unit Empty Bool) false (fun _ => true) = _
      rw [h2, List.all_cons]
      cases hb : b x
      · exact i2
      · rfl
theorem maxL_iff {t : Type} (g : t → Int) (xs : List t) (h : 0 < xs.length) (r : Int) : maxL (xs.map g) ≤ r ↔ ∀ x ∈ xs, g x ≤ r := by
  constructor
  · intro z x hx
    have := maxL_le (List.mem_map.mpr ⟨x, hx, rfl⟩ : g x ∈ xs.map g)
    omega
  · intro z
    obtain ⟨x, hx, e⟩ := List.mem_map.mp (maxL_mem (xs := xs.map g) (by rw [List.length_map]; exact h))
    rw [← e]
    exact z x hx
theorem minL_iff {t : Type} (g : t → Int) (xs : List t) (h : 0 < xs.length) (r : Int) : r ≤ minL (xs.map g) ↔ ∀ x ∈ xs, r ≤ g x := by
  constructor
  · intro z x hx
    have := minL_le (List.mem_map.mpr ⟨x, hx, rfl⟩ : g x ∈ xs.map g)
    omega
  · intro z
    obtain ⟨x, hx, e⟩ := List.mem_map.mp (minL_mem (xs := xs.map g) (by rw [List.length_map]; exact h))
    rw [← e]
    exact z x hx
theorem pyEnum_map_range {t : Type} (g : Int → t) (n : Nat) : pyEnum ((pyRange 0 n).map g) = (pyRange 0 n).map fun k => (k, g k) := by
  refine List.ext_getElem (by simp [pyEnum_len, pyRange_len]) fun i h1 h2 => ?_
  have hi : i < n := by simpa [pyEnum_len, pyRange_len] using h1
  have e1 := pyEnum_get (xs := (pyRange 0 n).map g) (i := i) (by simpa [pyRange_len] using hi)
  rw [List.getElem?_eq_getElem h1] at e1
  have e2 := Option.some.inj e1
  rw [e2]
  have e3 := pyRange_get (lo := 0) hi
  have e4 : (pyRange 0 n)[i]'(by rw [pyRange_len]; exact hi) = (i : Int) := by
    rw [List.getElem?_eq_getElem (by rw [pyRange_len]; exact hi)] at e3
    have := Option.some.inj e3
    omega
  simp [e4]
/-- a loop over nothing that may hand back -/
theorem loop_ret {t B R : Type} {p : Unit → t → Prop} {f : Unit → t → Out Unit Unit R} (RQ : R → Prop) (xs : List t) (h : ∀ x ∈ xs, p () x ∧ (f () x = .fall () ∨ ∃ r, f () x = .ret r ∧ RQ r)) :
    loopP p f () xs ∧ ((loopL f () xs : Out Unit B R) = .fall () ∨ ∃ r, (loopL f () xs : Out Unit B R) = .ret r ∧ RQ r) := by
  induction xs with
  | nil => exact ⟨trivial, .inl rfl⟩
  | cons x xs ih =>
    obtain ⟨h1, h2⟩ := h x List.mem_cons_self
    obtain ⟨i1, i2⟩ := ih fun y hy => h y (List.mem_cons_of_mem x hy)
    constructor
    · show p () x ∧ stepP (f () x) fun s => loopP p f s xs
      rcases h2 with h2 | ⟨r, h2, _⟩ <;> rw [h2]
      · exact ⟨h1, i1⟩
      · exact ⟨h1, trivial⟩
    · show stepO (f () x) (fun s => loopL f s xs) = _ ∨ ∃ r, stepO (f () x) (fun s => loopL f s xs) = _ ∧ _
      rcases h2 with h2 | ⟨r, h2, h3⟩ <;> rw [h2]
      · exact i2
      · exact .inr ⟨r, rfl, h3⟩
def no1 {t : Type} : t → Prop := fun _ => False
section
variable {L t S B R : Type} {p : L → t → Prop} {f : L → t → Out L L R} {xs : List t} {s : L}
theorem loop_inv (I : Nat → L → Prop) (F : L → Prop) (T : R → Prop) (X : Str → Prop) {C K : B → Prop} (h0 : I 0 s) (hs : ∀ (i : Nat) s x, xs[i]? = some x → I i s → p s x ∧ OQ (I (i + 1)) (I (i + 1)) F T X (f s x)) (hend : ∀ s, I xs.length s → F s) :
    loopP p f s xs ∧ OQ F C K T X (loopL f s xs : Out L B R) := by
  induction xs generalizing s I with
  | nil => exact ⟨trivial, hend _ h0⟩
  | cons x xs ih =>
    obtain ⟨h1, h2⟩ := hs 0 s x rfl h0
    have nx := fun s' (z : I 1 s') => ih (s := s') (fun i => I (i + 1)) z (fun i s x hx hi => hs (i + 1) s x (by simpa using hx) hi) hend
    constructor
    · show p s x ∧ stepP (f s x) fun s => loopP p f s xs
      refine ⟨h1, ?_⟩
      generalize f s x = o at h2
      cases o with
      | fall s' => exact (nx s' h2).1
      | cnt s' => exact (nx s' h2).1
      | brk s' => trivial
      | ret r => trivial
      | exc c => trivial
    · show OQ F C K T X (stepO (f s x) (fun s => loopL f s xs))
      generalize f s x = o at h2
      cases o with
      | fall s' => exact (nx s' h2).2
      | cnt s' => exact (nx s' h2).2
      | brk s' => exact h2
      | ret r => exact h2
      | exc c => exact h2
theorem loopL_congr {g : L → t → Out L L R} (h : ∀ s, ∀ x ∈ xs, f s x = g s x) : (loopL f s xs : Out L B R) = loopL g s xs := by
  induction xs generalizing s with
  | nil => rfl
  | cons x xs ih =>
    show stepO (f s x) (fun s => loopL f s xs) = stepO (g s x) (fun s => loopL g s xs)
    rw [h s x List.mem_cons_self]
    congr 1
    funext s'
    exact ih fun s y hy => h s y (List.mem_cons_of_mem x hy)
/-- a fold, by places -/
theorem fold_inv {p : L → t → Prop} {f : L → t → L} (I : Nat → L → Prop) (h0 : I 0 s) (hs : ∀ (i : Nat) s x, xs[i]? = some x → I i s → p s x ∧ I (i + 1) (f s x)) : foldP p f s xs ∧ I xs.length (xs.foldl f s) := by
  induction xs generalizing s I with
  | nil => exact ⟨trivial, h0⟩
  | cons x xs ih =>
    obtain ⟨h1, h2⟩ := hs 0 s x rfl h0
    have nx := ih (s := f s x) (fun i => I (i + 1)) h2 (fun i s x hx hi => hs (i + 1) s x (by simpa using hx) hi)
    exact ⟨⟨h1, nx.1⟩, nx.2⟩
end
section
variable {L S B R : Type} {pc : L → Prop} {b : L → Bool} {p : L → Prop} {f : L → Out L L R} {s : L}
theorem while_inv (I : L → Prop) (m : L → Nat) (F : L → Prop) (T : R → Prop) (X : Str → Prop) {C K : B → Prop} (n : Nat) (hn : m s < n) (h0 : I s)
    (hs : ∀ s, I s → pc s ∧ (b s = true → p s ∧ OQ (fun s' => I s' ∧ m s' < m s) (fun s' => I s' ∧ m s' < m s) F T X (f s)) ∧ (b s = false → F s)) :
    whileP pc b p f n s ∧ OQ F C K T X (whileL b f n s : Out L B R) := by
  induction n generalizing s with
  | zero => omega
  | succ n ih =>
    obtain ⟨h1, h2, h3⟩ := hs s h0
    constructor
    · refine ⟨h1, fun hb => ?_⟩
      obtain ⟨h4, h5⟩ := h2 hb
      refine ⟨h4, ?_⟩
      generalize f s = o at h5
      cases o with
      | fall s' => exact (ih (by have := h5.2; omega) h5.1).1
      | cnt s' => exact (ih (by have := h5.2; omega) h5.1).1
      | brk s' => trivial
      | ret r => trivial
      | exc c => trivial
    · show OQ F C K T X (if b s = true then stepO (f s) fun s' => whileL b f n s' else .fall s)
      cases hb : b s
      · exact h3 hb
      · obtain ⟨h4, h5⟩ := h2 hb
        rw [if_pos rfl]
        generalize f s = o at h5
        cases o with
        | fall s' => exact (ih (by have := h5.2; omega) h5.1).2
        | cnt s' => exact (ih (by have := h5.2; omega) h5.1).2
        | brk s' => exact h5
        | ret r => exact h5
        | exc c => exact h5
end
section
variable {S T' B R : Type} {F : T' → Prop} {C K : B → Prop} {T : R → Prop} {X : Str → Prop}
theorem OQ.mono {F' : T' → Prop} {C' K' : B → Prop} {T2 : R → Prop} {X' : Str → Prop} {o : Out T' B R} (h : OQ F C K T X o) (hF : ∀ s, F s → F' s) (hC : ∀ s, C s → C' s) (hK : ∀ s, K s → K' s) (hT : ∀ s, T s → T2 s) (hX : ∀ s, X s → X' s) : OQ F' C' K' T2 X' o := by
  cases o with
  | fall s => exact hF _ h
  | cnt s => exact hC _ h
  | brk s => exact hK _ h
  | ret s => exact hT _ h
  | exc s => exact hX _ h
theorem OQ.valD {o : Out T' B R} {d : R} {k : T' → R} {Q : R → Prop} (h : OQ F no1 no1 T no1 o) (hF : ∀ s, F s → Q (k s)) (hT : ∀ r, T r → Q r) : Q (valD o d k) := by
  cases o with
  | fall s => exact hF _ h
  | ret s => exact hT _ h
  | cnt s => exact h.elim
  | brk s => exact h.elim
  | exc s => exact h.elim
theorem OQ.fallD {o : Out T' B R} {d : T'} {Q : T' → Prop} (h : OQ F no1 no1 no1 no1 o) (hF : ∀ s, F s → Q s) : Q (fallD o d) := by
  cases o with
  | fall s => exact hF _ h
  | ret s => exact h.elim
  | cnt s => exact h.elim
  | brk s => exact h.elim
  | exc s => exact h.elim
theorem OQ.bind {F2 : S → Prop} {o : Out T' B R} {k : T' → Out S B R} {P : T' → Prop} (h : OQ F C K T X o) (hk : ∀ s, F s → P s ∧ OQ F2 C K T X (k s)) : o.Then P ∧ OQ F2 C K T X (o.bind k) := by
  cases o with
  | fall s => exact hk _ h
  | cnt s => exact ⟨trivial, h⟩
  | brk s => exact ⟨trivial, h⟩
  | ret s => exact ⟨trivial, h⟩
  | exc s => exact ⟨trivial, h⟩
theorem OQ.bind1 {F2 : S → Prop} {o : Out T' B R} {k : T' → Out S B R} (h : OQ F C K T X o) (hk : ∀ s, F s → OQ F2 C K T X (k s)) : OQ F2 C K T X (o.bind k) := (OQ.bind (P := fun _ => True) h fun s z => ⟨trivial, hk s z⟩).2
theorem OQ.ThenP {o : Out T' B R} {P : T' → Prop} (h : OQ F C K T X o) (hk : ∀ s, F s → P s) : o.Then P := by
  cases o with
  | fall s => exact hk _ h
  | cnt s => trivial
  | brk s => trivial
  | ret s => trivial
  | exc s => trivial
end
end BW

set_option Elab.async false
set_option linter.all false
set_option maxRecDepth 100000
set_option maxHeartbeats 4000000
/-! Words and their bits; outcomes. -/
namespace BW
open PySem L2
def Bits (xs : List Int) : Prop := ∀ x ∈ xs, x = 0 ∨ x = 1
def wordOf (bits : List Int) : Int := bits.foldr (fun b w => 2 * w + b) 0
theorem Bits.tail {x : Int} {xs : List Int} (h : Bits (x :: xs)) : Bits xs := fun y hy => h y (List.mem_cons_of_mem _ hy)
theorem Bits.head {x : Int} {xs : List Int} (h : Bits (x :: xs)) : x = 0 ∨ x = 1 := h x List.mem_cons_self
theorem Bits.app {xs ys : List Int} : Bits (xs ++ ys) ↔ Bits xs ∧ Bits ys := by
  constructor
  · exact fun h => ⟨fun x hx => h x (List.mem_append_left _ hx), fun x hx => h x (List.mem_append_right _ hx)⟩
  · rintro ⟨h1, h2⟩ x hx
    rcases List.mem_append.mp hx with z | z
    · exact h1 x z
    · exact h2 x z
theorem Bits.cons {x : Int} {xs : List Int} : Bits (x :: xs) ↔ (x = 0 ∨ x = 1) ∧ Bits xs := ⟨fun h => ⟨h.head, h.tail⟩, fun h y hy => by
  rcases List.mem_cons.mp hy with z | z
  · rw [z]; exact h.1
  · exact h.2 y z⟩
theorem wordOf_bd {bits : List Int} (h : Bits bits) : 0 ≤ wordOf bits ∧ wordOf bits < 2 ^ bits.length := by
  induction bits with
  | nil => exact ⟨by decide, by decide⟩
  | cons b bs ih =>
    have i := ih h.tail
    have hb := h.head
    have e : wordOf (b :: bs) = 2 * wordOf bs + b := rfl
    rw [e, List.length_cons, Int.pow_succ]
    omega
theorem two_pow_le {i n : Nat} (h : i ≤ n) : (2 : Int) ^ i ≤ 2 ^ n := by
  have := Nat.pow_le_pow_right (n := 2) (by decide) h
  exact_mod_cast this
theorem pyRange_cons (lo : Int) (n : Nat) : pyRange lo (n + 1) = lo :: pyRange (lo + 1) n := by
  unfold pyRange
  rw [List.range_succ_eq_map, List.map_cons, List.map_map]
  congr 1
  · simp
  · apply List.map_congr_left
    intro i _
    simp only [Function.comp]
    omega
theorem pyRange_shift (lo d : Int) (n : Nat) : pyRange (lo + d) n = (pyRange lo n).map (· + d) := by
  unfold pyRange
  rw [List.map_map]
  apply List.map_congr_left
  intro i _
  simp only [Function.comp]
  omega
theorem bitsOf_succ (n : Nat) (w : Int) : bitsOf ((n + 1 : Nat) : Int) w = (w % 2) :: bitsOf (n : Int) (w / 2) := by
  unfold bitsOf
  rw [Int.toNat_natCast, Int.toNat_natCast, pyRange_cons, pyRange_shift, List.map_cons, List.map_map]
  congr 1
  · show w / 2 ^ 0 % 2 = _
    rw [Int.pow_zero, Int.ediv_one]
  · apply List.map_congr_left
    intro k hk
    have hk := mem_pyRange.mp hk
    simp only [Function.comp]
    have e : (k + 1).toNat = k.toNat + 1 := by omega
    rw [e, Int.pow_succ, Int.mul_comm, Int.ediv_ediv]
    simp
theorem bitsOf_bits (n w : Int) : Bits (bitsOf n w) := by
  intro x hx
  unfold bitsOf at hx
  obtain ⟨k, _, rfl⟩ := List.mem_map.mp hx
  have := Int.emod_nonneg (w / 2 ^ k.toNat) (show (2 : Int) ≠ 0 by decide)
  have := Int.emod_lt_of_pos (w / 2 ^ k.toNat) (show (0 : Int) < 2 by decide)
  omega
theorem word_bits (n : Nat) : ∀ w : Int, 0 ≤ w → w < 2 ^ n → wordOf (bitsOf (n : Int) w) = w := by
  induction n with
  | zero =>
    intro w h0 h1
    have : w = 0 := by simp at h1; omega
    subst this
    rfl
  | succ n ih =>
    intro w h0 h1
    rw [bitsOf_succ]
    show 2 * wordOf (bitsOf n (w / 2)) + w % 2 = w
    rw [Int.pow_succ] at h1
    rw [ih (w / 2) (by omega) (by omega)]
    omega
theorem bits_word {bits : List Int} (h : Bits bits) : bitsOf (bits.length : Int) (wordOf bits) = bits := by
  induction bits with
  | nil => rfl
  | cons b bs ih =>
    have hb := h.head
    have e : wordOf (b :: bs) = 2 * wordOf bs + b := rfl
    rw [List.length_cons, bitsOf_succ, e]
    have e1 : (2 * wordOf bs + b) % 2 = b := by omega
    have e2 : (2 * wordOf bs + b) / 2 = wordOf bs := by omega
    rw [e1, e2, ih h.tail]
theorem sum_word (bits : List Int) : ((pyRange 0 bits.length).map fun k : Int => pyGet 0 bits k * 2 ^ k.toNat).sum = wordOf bits := by
  induction bits with
  | nil => rfl
  | cons b bs ih =>
    have e : wordOf (b :: bs) = 2 * wordOf bs + b := rfl
    rw [List.length_cons, pyRange_cons, pyRange_shift, List.map_cons, List.map_map, List.sum_cons, e, ← ih]
    have e1 : pyGet 0 (b :: bs) 0 * 2 ^ (0 : Int).toNat = b := by
      rw [pyGet_pos _ _ _ (by decide)]
      simp
    have e2 : ((pyRange 0 bs.length).map ((fun k : Int => pyGet 0 (b :: bs) k * 2 ^ k.toNat) ∘ fun x => x + 1)) = ((pyRange 0 bs.length).map fun k : Int => 2 * (pyGet 0 bs k * 2 ^ k.toNat)) := by
      apply List.map_congr_left
      intro k hk
      have hk := mem_pyRange.mp hk
      simp only [Function.comp]
      have e : (k + 1).toNat = k.toNat + 1 := by omega
      rw [pyGet_pos _ _ _ (by omega), pyGet_pos _ _ _ hk.1, e, List.getD_cons_succ, Int.pow_succ]
      rw [Int.mul_comm (2 ^ k.toNat) 2, Int.mul_left_comm]
    have e3 : ∀ (xs : List Int) (g : Int → Int), (xs.map fun k => 2 * g k).sum = 2 * (xs.map g).sum := by
      intro xs g
      induction xs with
      | nil => rfl
      | cons x xs ih => simp only [List.map_cons, List.sum_cons, ih]; omega
    rw [e1, e2, e3]
    omega
theorem wordOf_foldl (bits : List Int) : bits.reverse.foldl (fun s x => 2 * s + x) 0 = wordOf bits := by rw [List.foldl_reverse]; rfl
/-! ### rows -/
/-- the row of a start, bits, a check or none, a stop -/
def rowOf (s : Int) (bits chk : List Int) (t : Int) : List Int := s :: (bits ++ (chk ++ [t]))
def ChkOk (f : Int × Str) (chk : List Int) : Prop := (f.2 = sNone ∧ chk = []) ∨ (f.2 ≠ sNone ∧ ∃ c, chk = [c])
def ocRow (f : Int × Str) (s : Int) (bits chk : List Int) (t : Int) : Oc :=
  if s = 1 then .broken (Str.ofString "start") else if f.2 ≠ sNone ∧ chk ≠ [checkOf f bits] then .broken (Str.ofString "check") else if t = 0 then .broken (Str.ofString "stop") else .word (wordOf bits)
def ocOf (f : Int × Str) (row : List Int) : Oc :=
  ocRow f (row.getD 0 0) ((row.drop 1).take f.1.toNat) (if f.2 = sNone then [] else [row.getD (f.1.toNat + 1) 0]) (row.getD (row.length - 1) 0)
theorem row_split {f : Int × Str} {row : List Int} (hf : FormOk f) (h : (row.length : Int) = sizeOf f) : ∃ s bits chk t, row = rowOf s bits chk t ∧ (bits.length : Int) = f.1 ∧ ChkOk f chk := by
  obtain ⟨h1, h2⟩ := hf
  unfold sizeOf at h
  cases row with
  | nil => simp at h; split at h <;> omega
  | cons s rest =>
    rw [List.length_cons] at h
    have e1 : rest = rest.take f.1.toNat ++ rest.drop f.1.toNat := (List.take_append_drop _ _).symm
    have hl : (rest.take f.1.toNat).length = f.1.toNat := by rw [List.length_take]; split at h <;> omega
    have hd := List.length_drop (l := rest) (i := f.1.toNat)
    refine ⟨s, rest.take f.1.toNat, ?_⟩
    generalize rest.take f.1.toNat = bits at *
    generalize rest.drop f.1.toNat = dr at *
    by_cases e : f.2 = sNone
    · rw [if_pos e] at h
      match dr, hd with
      | [t], hd => exact ⟨[], t, by rw [e1]; rfl, by omega, .inl ⟨e, rfl⟩⟩
      | [], hd => simp at hd; omega
      | _ :: _ :: _, hd => simp at hd; omega
    · rw [if_neg e] at h
      match dr, hd with
      | [c, t], hd => exact ⟨[c], t, by rw [e1]; rfl, by omega, .inr ⟨e, c, rfl⟩⟩
      | [], hd => simp at hd; omega
      | [_], hd => simp at hd; omega
      | _ :: _ :: _ :: _, hd => simp at hd; omega
theorem rowOf_len {s : Int} {bits chk : List Int} {t : Int} : (rowOf s bits chk t).length = bits.length + chk.length + 2 := by simp [rowOf]; omega
theorem rowOf_size {f : Int × Str} {s : Int} {bits chk : List Int} {t : Int} (hb : (bits.length : Int) = f.1) (hc : ChkOk f chk) : ((rowOf s bits chk t).length : Int) = sizeOf f := by
  rw [rowOf_len]
  unfold sizeOf
  rcases hc with ⟨e, rfl⟩ | ⟨e, c, rfl⟩
  · rw [if_pos e, List.length_nil]; omega
  · rw [if_neg e, List.length_cons, List.length_nil]; omega
theorem rowOf_bits {s : Int} {bits chk : List Int} {t : Int} : Bits (rowOf s bits chk t) ↔ (s = 0 ∨ s = 1) ∧ Bits bits ∧ Bits chk ∧ (t = 0 ∨ t = 1) := by
  unfold rowOf
  rw [Bits.cons, Bits.app, Bits.app, Bits.cons]
  exact ⟨fun ⟨a, b, c, d, _⟩ => ⟨a, b, c, d⟩, fun ⟨a, b, c, d⟩ => ⟨a, b, c, d, fun _ h => nomatch h⟩⟩
theorem rowOf_first {s : Int} {bits chk : List Int} {t : Int} : (rowOf s bits chk t).getD 0 0 = s := rfl
theorem rowOf_mid {f : Int × Str} {s : Int} {bits chk : List Int} {t : Int} (hb : (bits.length : Int) = f.1) : ((rowOf s bits chk t).drop 1).take f.1.toNat = bits := by
  have : f.1.toNat = bits.length := by omega
  rw [this]
  simp [rowOf]
theorem rowOf_chk {f : Int × Str} {s : Int} {bits chk : List Int} {t : Int} (hb : (bits.length : Int) = f.1) (hc : ChkOk f chk) : (if f.2 = sNone then [] else [(rowOf s bits chk t).getD (f.1.toNat + 1) 0]) = chk := by
  have : f.1.toNat = bits.length := by omega
  rcases hc with ⟨e, rfl⟩ | ⟨e, c, rfl⟩
  · rw [if_pos e]
  · rw [if_neg e, this]
    simp [rowOf]
theorem rowOf_last {s : Int} {bits chk : List Int} {t : Int} : (rowOf s bits chk t).getD ((rowOf s bits chk t).length - 1) 0 = t := by
  have e : (rowOf s bits chk t) = (s :: (bits ++ chk)) ++ [t] := by simp [rowOf]
  have l : ∀ xs : List Int, (xs ++ [t]).getD ((xs ++ [t]).length - 1) 0 = t := fun xs => by
    have : (xs ++ [t]).length - 1 = xs.length := by simp
    rw [this]
    simp [List.getD_eq_getElem?_getD]
  rw [e]
  exact l _
theorem ocOf_row {f : Int × Str} {s : Int} {bits chk : List Int} {t : Int} (hb : (bits.length : Int) = f.1) (hc : ChkOk f chk) : ocOf f (rowOf s bits chk t) = ocRow f s bits chk t := by
  unfold ocOf
  rw [rowOf_first, rowOf_mid hb, rowOf_chk hb hc, rowOf_last]
theorem levels_row (f : Int × Str) (w : Int) : levels f w = rowOf 0 (bitsOf f.1 w) (checksOf f (bitsOf f.1 w)) 1 := rfl
theorem checksOf_ok (f : Int × Str) (bits : List Int) : ChkOk f (checksOf f bits) := by
  unfold checksOf
  by_cases e : f.2 = sNone
  · rw [if_pos e]; exact .inl ⟨e, rfl⟩
  · rw [if_neg e]; exact .inr ⟨e, _, rfl⟩
theorem bitsOf_len' (f : Int × Str) (w : Int) (hf : FormOk f) : ((bitsOf f.1 w).length : Int) = f.1 := by
  rw [bitsOf_len]
  have := hf.1
  omega
theorem checkOf_bit (f : Int × Str) (bits : List Int) : checkOf f bits = 0 ∨ checkOf f bits = 1 := by
  unfold checkOf
  omega
theorem levels_bits (f : Int × Str) (w : Int) : Bits (levels f w) := by
  rw [levels_row, rowOf_bits]
  refine ⟨.inl rfl, bitsOf_bits _ _, ?_, .inr rfl⟩
  unfold checksOf
  split
  · exact fun _ h => nomatch h
  · exact Bits.cons.mpr ⟨checkOf_bit _ _, fun _ h => nomatch h⟩
theorem ocOf_levels (f : Int × Str) (w : Int) (hf : FormOk f) (h0 : 0 ≤ w) (h1 : w < 2 ^ f.1.toNat) : ocOf f (levels f w) = .word w := by
  rw [levels_row, ocOf_row (bitsOf_len' f w hf) (checksOf_ok _ _)]
  unfold ocRow checksOf
  have e : f.1 = ((f.1.toNat : Nat) : Int) := by have := hf.1; omega
  rw [if_neg (by decide), if_neg (fun ⟨z1, z2⟩ => z2 (by rw [if_neg z1])), if_neg (by decide), e, word_bits _ w h0 h1]
/-! ### outcome, as told -/
def OutcOk (f : Int × Str) (row : List Int) : Prop := FormOk f ∧ Bits row
def LOutcOk (f : Int × Str) (row : List Int) : Prop := FormOk f ∧ Bits row ∧ (row.length : Int) = sizeOf f
def outcomeE (f : Int × Str) (row : List Int) : Except Str Oc := if (row.length : Int) = sizeOf f then .ok (ocOf f row) else .error (Str.ofString "NoLevels")
theorem check_due_eq (f : Int × Str) (bits : List Int) (hf : FormOk f) (e : f.2 ≠ sNone) : v_check_due f bits = checkOf f bits := by
  dsimp only [v_check_due, checkOf, lt]
  rw [and1]
  have n1 : (sEven = sOdd) = False := eq_false even_odd
  rcases hf.2 with h | h | h
  · exact absurd h e
  · rw [h, if_pos (by simp), decide_eq_false even_odd]
    simp [b2I]
  · rw [h, if_neg (by simp; exact fun z => even_odd z.symm), decide_eq_true rfl]
    simp only [b2I, if_true]
    omega
theorem fold_word (bits : List Int) (hb : Bits bits) (hl : bits.length ≤ 30) : foldP (fun (s : Int) (x : Int) => MulOk 2 s) (fun (s : Int) (x : Int) => 2 * s + x) 0 bits.reverse := by
  refine (fold_inv (fun i s => 0 ≤ s ∧ s < 2 ^ i) ⟨by decide, by decide⟩ fun i s x hx hI => ?_).1
  have hi : i < bits.reverse.length := (List.getElem?_eq_some_iff.mp hx).1
  rw [List.length_reverse] at hi
  have hxb := hb x (List.mem_reverse.mp (List.mem_of_getElem? hx))
  have hp : (2 : Int) ^ i ≤ 2 ^ 30 := two_pow_le (by omega)
  refine ⟨mulOk_small (by decide) (by omega), ?_⟩
  rw [Int.pow_succ]
  omega
theorem rowOf_slice {f : Int × Str} {s : Int} {bits chk : List Int} {t : Int} (hb : (bits.length : Int) = f.1) : pySlice (rowOf s bits chk t) (some 1) (some (f.1 + 1)) = bits := by
  have e : f.1 + 1 = ((bits.length + 1 : Nat) : Int) := by omega
  rw [e, show (1 : Int) = ((1 : Nat) : Int) from rfl, pySlice_nat]
  simp [rowOf]
theorem rowOf_ck {f : Int × Str} {s : Int} {bits : List Int} {c t : Int} (hb : (bits.length : Int) = f.1) : pyGet 0 (rowOf s bits [c] t) (f.1 + 1) = c := by
  have e : f.1 + 1 = ((bits.length + 1 : Nat) : Int) := by omega
  rw [e, pyGet_nat]
  simp [rowOf]
theorem rowOf_neg1 {s : Int} {bits chk : List Int} {t : Int} : pyGet 0 (rowOf s bits chk t) (-1) = t := by
  rw [pyGet_neg _ _ _ (by decide) (by rw [rowOf_len]; omega)]
  have : (-1 + ((rowOf s bits chk t).length : Int)).toNat = (rowOf s bits chk t).length - 1 := by rw [rowOf_len]; omega
  rw [this, rowOf_last]
theorem rowOf_neg2 {s : Int} {bits : List Int} {c t : Int} : pyGet 0 (rowOf s bits [c] t) (-2) = c := by
  rw [pyGet_neg _ _ _ (by decide) (by rw [rowOf_len]; omega)]
  have : (-2 + ((rowOf s bits [c] t).length : Int)).toNat = bits.length + 1 := by rw [rowOf_len, List.length_cons, List.length_nil]; omega
  rw [this]
  simp [rowOf]
theorem rowOf_bit {s : Int} {bits chk : List Int} {t k : Int} (h0 : 0 ≤ k) (h1 : k < bits.length) : pyGet 0 (rowOf s bits chk t) (1 + k) = pyGet 0 bits k := by
  rw [pyGet_pos _ _ _ (by omega), pyGet_pos _ _ _ h0]
  have e : (1 + k).toNat = k.toNat + 1 := by omega
  have e2 : k.toNat < bits.length := by omega
  rw [e]
  simp [rowOf, List.getD_eq_getElem?_getD, List.getElem?_append_left e2]
theorem nice_outcome (f : Int × Str) (row : List Int) (h : OutcOk f row) : p_outcome f row ∧ v_outcome f row = outcomeE f row := by
  obtain ⟨hf, hb⟩ := h
  have hsz := sizeOf_bd f hf
  unfold p_outcome v_outcome o_outcome outcomeE
  rw [sizeOf_eq]
  by_cases hl : (row.length : Int) = sizeOf f
  · rw [if_pos hl, decide_eq_true hl]
    have i0 : IxOk row.length 0 := ixOk_of (by decide) (by omega)
    have i1 : IxOk row.length (-1) := ⟨by omega, by omega⟩
    obtain ⟨s, bits, chk, t, rfl, h1, h2⟩ := row_split hf hl
    obtain ⟨b1, b2, b3, b4⟩ := rowOf_bits.mp hb
    rw [ocOf_row h1 h2]
    have hb2 := hf.1
    rw [rowOf_slice h1, rowOf_neg1, pyGet_lit]
    have ic : IxOk (rowOf s bits chk t).length (f.1 + 1) := ixOk_of (by omega) (by rw [rowOf_len]; omega)
    have hfw := fold_word bits b2 (by omega)
    dsimp only [lt]
    have e0 : (rowOf s bits chk t).getD (OfNat.ofNat 0) 0 = s := rfl
    rw [e0]
    refine ⟨fun _ => ⟨i0, fun _ => trivial, fun _ => ⟨fun _ => ic, fun _ => trivial, fun _ => ⟨i1, fun _ => trivial, fun _ => hfw⟩⟩⟩, ?_⟩
    unfold ocRow
    rw [wordOf_foldl]
    by_cases hs : s = 1
    · rw [if_pos hs, decide_eq_true hs]; rfl
    · rw [if_neg hs, decide_eq_false hs]
      have hq : ((!decide (f.2 = Str.ofString "none")) && !decide (pyGet 0 (rowOf s bits chk t) (f.1 + 1) = v_check_due f bits)) = decide (f.2 ≠ sNone ∧ chk ≠ [checkOf f bits]) := by
        rcases h2 with ⟨e, rfl⟩ | ⟨e, c, rfl⟩
        · rw [decide_eq_true e]; simp [e]
        · rw [decide_eq_false e, rowOf_ck h1, check_due_eq f bits hf e]
          simp [e]
      rw [hq]
      by_cases hc : f.2 ≠ sNone ∧ chk ≠ [checkOf f bits]
      · rw [if_pos hc, decide_eq_true hc]; rfl
      · rw [if_neg hc, decide_eq_false hc]
        by_cases ht : t = 0
        · rw [if_pos ht, decide_eq_true ht]; rfl
        · rw [if_neg ht, decide_eq_false ht]; rfl
  · rw [if_neg hl, decide_eq_false hl]
    exact ⟨nofun, rfl⟩
theorem nice_law_outcome (f : Int × Str) (row : List Int) (h : LOutcOk f row) : p_law_outcome f row ∧ v_law_outcome f row = ocOf f row := by
  obtain ⟨hf, hb, hl⟩ := h
  have hsz := sizeOf_bd f hf
  have hsl := sizeLine_eq
  unfold p_law_outcome v_law_outcome
  have i0 : IxOk row.length 0 := ixOk_of (by decide) (by omega)
  have i1 : IxOk row.length (-1) := ⟨by omega, by omega⟩
  have i2 : IxOk row.length (-2) := ⟨by omega, by omega⟩
  obtain ⟨s, bits, chk, t, rfl, h1, h2⟩ := row_split hf hl
  obtain ⟨b1, b2, b3, b4⟩ := rowOf_bits.mp hb
  rw [ocOf_row h1 h2]
  have hb2 := hf.1
  have hw := wordOf_bd b2
  have hsum : ((pyRange 0 f.1.toNat).map fun k : Int => pyGet 0 (rowOf s bits chk t) (1 + k) * 2 ^ k.toNat).sum = wordOf bits := by
    rw [← sum_word, show f.1.toNat = bits.length by omega]
    congr 1
    apply List.map_congr_left
    intro k hk
    have hk := mem_pyRange.mp hk
    rw [rowOf_bit hk.1 (by omega)]
  rw [hsum, rowOf_neg1, pyGet_lit]
  dsimp only [lt]
  have e0 : (rowOf s bits chk t).getD (OfNat.ofNat 0) 0 = s := rfl
  rw [e0]
  have hlen : (levels f (wordOf bits)).length = (sizeOf f).toNat := by have := levels_size f (wordOf bits) hf; omega
  have it : IxOk [Oc.broken (Str.ofString "stop"), Oc.word (wordOf bits)].length t := by
    rcases b4 with rfl | rfl <;> exact ⟨by simp, by simp⟩
  refine ⟨⟨i0, fun _ => trivial, fun _ => ⟨⟨⟨by unfold RgOk; omega, fun k hk => ?_⟩, by rw [LenOk, pyRange_len]; omega⟩, fun _ => ⟨i2, hf, ⟨by omega, by omega⟩⟩, fun _ => trivial, fun _ => ⟨i1, it⟩⟩⟩, ?_⟩
  · have hk := mem_pyRange.mp hk
    refine ⟨ixOk_of (by omega) (by rw [rowOf_len]; omega), ?_⟩
    have : pyGet 0 (rowOf s bits chk t) (1 + k) = 0 ∨ pyGet 0 (rowOf s bits chk t) (1 + k) = 1 := hb _ (pyGet_mem _ _ _ (ixOk_of (by omega) (by rw [rowOf_len]; omega)))
    refine ⟨by omega, by omega, ?_⟩
    rcases this with e | e <;> rw [e] <;> decide
  · unfold ocRow
    by_cases hs : s = 1
    · rw [if_pos hs, decide_eq_true hs]; rfl
    · rw [if_neg hs, decide_eq_false hs]
      have hq : ((!decide (f.2 = Str.ofString "none")) && !decide (pyGet 0 (rowOf s bits chk t) (-2) = pyGet 0 (levels f (wordOf bits)) (-2))) = decide (f.2 ≠ sNone ∧ chk ≠ [checkOf f bits]) := by
        rcases h2 with ⟨e, rfl⟩ | ⟨e, c, rfl⟩
        · rw [decide_eq_true e]; simp [e]
        · have e2 : levels f (wordOf bits) = rowOf 0 bits [checkOf f bits] 1 := by
            rw [levels_row]
            have e3 : bitsOf f.1 (wordOf bits) = bits := by rw [← h1, bits_word b2]
            rw [e3, checksOf, if_neg e]
          rw [decide_eq_false e, rowOf_neg2, e2, rowOf_neg2]
          simp [e]
      rw [hq]
      by_cases hc : f.2 ≠ sNone ∧ chk ≠ [checkOf f bits]
      · rw [if_pos hc, decide_eq_true hc]; rfl
      · rw [if_neg hc, decide_eq_false hc]
        rcases b4 with rfl | rfl
        · rw [if_pos rfl]; rfl
        · rw [if_neg (by decide)]; rfl
end BW

set_option Elab.async false
set_option linter.all false
set_option maxRecDepth 100000
set_option maxHeartbeats 4000000
/-! What is refused, and how. -/
namespace BW
open PySem L2
theorem nice_law_only (w : Str) (_ : True) : p_law_only w ∧ v_law_only w = v_law_only w := by
  refine ⟨?_, rfl⟩
  dsimp only [p_law_only, lt]
  rw [LenOk, sizeLine_eq]
  simp
def flags (c : Str) : List Bool := [(decide (c = (Str.ofString "NoWord"))), (decide (c = (Str.ofString "NoLevels"))), (decide (c = (Str.ofString "NoSpeech"))), (decide (c = (Str.ofString "NoLine"))), (decide (c = (Str.ofString "NoText"))), (decide (c = (Str.ofString "NoOrder"))), (decide (c = (Str.ofString "NoBeat"))), true]
theorem flags_word : flags (Str.ofString "NoWord") = v_law_only (Str.ofString "word") := by decide +kernel
theorem flags_levels : flags (Str.ofString "NoLevels") = v_law_only (Str.ofString "levels") := by decide +kernel
theorem flags_speech : flags (Str.ofString "NoSpeech") = v_law_only (Str.ofString "speech") := by decide +kernel
theorem flags_line : flags (Str.ofString "NoLine") = v_law_only (Str.ofString "line") := by decide +kernel
theorem flags_text : flags (Str.ofString "NoText") = v_law_only (Str.ofString "text") := by decide +kernel
theorem flags_order : flags (Str.ofString "NoOrder") = v_law_only (Str.ofString "order") := by decide +kernel
theorem flags_beat : flags (Str.ofString "NoBeat") = v_law_only (Str.ofString "beat") := by decide +kernel
theorem only_ne (w : Str) : v_law_only w ≠ [] := by
  dsimp only [v_law_only, lt]
  simp
/-- told, by what came -/
def toldOf {t : Type} : Except Str t → List Bool
  | .ok _ => []
  | .error c => flags c
theorem tryV_flags {t : Type} (r : Except Str t) : tryV (Except.map (fun _ => ([] : List Bool)) (Except.map (fun _ => ()) r)) (fun c_ : Str => (lt ([(decide (c_ = (Str.ofString "NoWord"))), (decide (c_ = (Str.ofString "NoLevels"))), (decide (c_ = (Str.ofString "NoSpeech"))), (decide (c_ = (Str.ofString "NoLine")))] : (List Bool)) fun told_3 : (List Bool) => (lt (told_3 ++ ([(decide (c_ = (Str.ofString "NoText"))), (decide (c_ = (Str.ofString "NoOrder"))), (decide (c_ = (Str.ofString "NoBeat"))), true] : (List Bool))) fun told_4 : (List Bool) => told_4))) = toldOf r := by
  cases r <;> rfl
theorem errIn_map {t u v : Type} {L : List Str} (f : t → u) (g : u → v) (r : Except Str t) : ErrIn L (Except.map g (Except.map f r)) ↔ ErrIn L r := by
  cases r <;> exact Iff.rfl
end BW

set_option Elab.async false
set_option linter.all false
set_option maxRecDepth 100000
set_option maxHeartbeats 4000000
/-! What is drawn by rows of sizes. -/
namespace BW
open PySem L2
theorem rep_len {t : Type} (xs : List t) (n : Nat) : ((List.replicate n xs).flatten).length = xs.length * n := by
  induction n with
  | zero => rfl
  | succ n ih => rw [List.replicate_succ, List.flatten_cons, List.length_append, ih, Nat.mul_succ]; omega
theorem rep_get {t : Type} (d : t) (xs : List t) (n : Nat) : ∀ (k j : Nat), k < n → j < xs.length → ((List.replicate n xs).flatten).getD (xs.length * k + j) d = xs.getD j d := by
  induction n with
  | zero => intro k j h; omega
  | succ n ih =>
    intro k j hk hj
    rw [List.replicate_succ, List.flatten_cons]
    cases k with
    | zero =>
      rw [Nat.mul_zero, Nat.zero_add]
      simp [List.getD_eq_getElem?_getD, List.getElem?_append_left hj]
    | succ k =>
      have e : xs.length * (k + 1) + j = xs.length + (xs.length * k + j) := by rw [Nat.mul_succ]; omega
      rw [e]
      have := ih k j (by omega) hj
      simp only [List.getD_eq_getElem?_getD] at this ⊢
      rw [List.getElem?_append_right (by omega)]
      have e2 : xs.length + (xs.length * k + j) - xs.length = xs.length * k + j := by omega
      rw [e2, this]
theorem slice4 (d : List Int) (k : Nat) (h : 4 * k + 7 ≤ d.length) : pySlice d (some (4 * (k : Int) + 3)) (some (4 * (k : Int) + 7)) = [d.getD (3 + (4 * k + 0)) 0, d.getD (3 + (4 * k + 1)) 0, d.getD (3 + (4 * k + 2)) 0, d.getD (3 + (4 * k + 3)) 0] := by
  have e1 : 4 * (k : Int) + 3 = ((4 * k + 3 : Nat) : Int) := by omega
  have e2 : 4 * (k : Int) + 7 = ((4 * k + 7 : Nat) : Int) := by omega
  rw [e1, e2, pySlice_nat]
  refine List.ext_getElem (by simp; omega) fun i h1 h2 => ?_
  have hi : i < 4 := by simpa using h2
  rw [List.getElem_drop, List.getElem_take]
  have g : ∀ (j : Nat) (hj : 4 * k + 3 + j < d.length), d[4 * k + 3 + j] = d.getD (3 + (4 * k + j)) 0 := fun j hj => by
    have e : 3 + (4 * k + j) = 4 * k + 3 + j := by omega
    rw [e]
    simp [hj]
  match i, hi with
  | 0, _ => exact g 0 (by omega)
  | 1, _ => exact g 1 (by omega)
  | 2, _ => exact g 2 (by omega)
  | 3, _ => exact g 3 (by omega)
theorem cell_ok (s : Scr) (k : Int) (h : 0 ≤ k) : p_law_cell_at s k := fun z => ixOk_of h (of_decide_eq_true z)
theorem drawOk_of {c : Int} {ss : List Int} (h1 : ss.length < 1000000) (h2 : ∀ s ∈ ss, 0 < s ∧ s < 2 ^ 256) : DrawOk c ss := ⟨h1, h2⟩
theorem mem_rep {Q : List Int} {n : Int} {x : Int} (h : x ∈ pyRep Q n) : x ∈ Q := by
  unfold pyRep at h
  obtain ⟨l, hl, hz⟩ := List.mem_flatten.mp h
  rw [(List.mem_replicate.mp hl).2] at hz
  exact hz
theorem drawn_rep (c : Int) (A Q C : List Int) (n : Nat) (h : DrawOk c ((A ++ pyRep Q (n : Int)) ++ C)) :
    (v_law_drawn c ((A ++ pyRep Q (n : Int)) ++ C)).length = A.length + Q.length * n + C.length ∧
    (∀ i, i < A.length → 0 ≤ (v_law_drawn c ((A ++ pyRep Q (n : Int)) ++ C)).getD i 0 ∧ (v_law_drawn c ((A ++ pyRep Q (n : Int)) ++ C)).getD i 0 < A.getD i 0) ∧
    (∀ k j, k < n → j < Q.length → 0 ≤ (v_law_drawn c ((A ++ pyRep Q (n : Int)) ++ C)).getD (A.length + (Q.length * k + j)) 0 ∧ (v_law_drawn c ((A ++ pyRep Q (n : Int)) ++ C)).getD (A.length + (Q.length * k + j)) 0 < Q.getD j 0) ∧
    ∀ i, i < A.length + Q.length * n + C.length → 0 ≤ (v_law_drawn c ((A ++ pyRep Q (n : Int)) ++ C)).getD i 0 := by
  have hrl : (pyRep Q (n : Int)).length = Q.length * n := by rw [pyRep, rep_len, Int.toNat_natCast]
  have hl : ((A ++ pyRep Q (n : Int)) ++ C).length = A.length + Q.length * n + C.length := by rw [List.length_append, List.length_append, hrl]
  have hb := drawn_below h
  have hg := fun i hi => below_get hb i (by rw [hl]; exact hi)
  refine ⟨by rw [drawn_len h, hl], fun i hi => ?_, fun k j hk hj => ?_, fun i hi => (hg i hi).1⟩
  · have e : ((A ++ pyRep Q (n : Int)) ++ C).getD i 0 = A.getD i 0 := by
      simp only [List.getD_eq_getElem?_getD]
      rw [List.append_assoc, List.getElem?_append_left hi]
    have := hg i (by omega)
    rw [e] at this
    exact this
  · have hm : Q.length * k + j < Q.length * n := by
      have := Nat.mul_le_mul_left Q.length (show k + 1 ≤ n from hk)
      rw [Nat.mul_succ] at this
      omega
    have e : ((A ++ pyRep Q (n : Int)) ++ C).getD (A.length + (Q.length * k + j)) 0 = Q.getD j 0 := by
      rw [← rep_get 0 Q n k j hk hj, pyRep, Int.toNat_natCast]
      simp only [List.getD_eq_getElem?_getD]
      rw [List.append_assoc, List.getElem?_append_right (by omega), List.getElem?_append_left (by rw [rep_len]; omega)]
      congr 2
      omega
    have := hg (A.length + (Q.length * k + j)) (by omega)
    rw [e] at this
    exact this
theorem getD_of_mem {xs : List Int} {x : Int} (h : x ∈ xs) : ∃ i, i < xs.length ∧ xs.getD i 0 = x := by
  obtain ⟨i, hi, e⟩ := List.mem_iff_getElem.mp h
  exact ⟨i, hi, by simp [hi, e]⟩
/-! loops, by an invariant -/
section
variable {L t S B R u : Type} {p : L → t → Prop} {fo : L → t → Out L L R} {f : L → t → L} {xs : List t} {s0 : L} {A : Prop} {Pn : L → Prop} {Q : u → Prop} {V : L → u}
theorem OQ.fall_ex {F : S → Prop} {o : Out S B R} (h : OQ F no1 no1 no1 no1 o) : ∃ s, o = .fall s ∧ F s := by
  cases o with
  | fall s => exact ⟨s, rfl, h⟩
  | ret s => exact h.elim
  | cnt s => exact h.elim
  | brk s => exact h.elim
  | exc s => exact h.elim
theorem OKK.loop {O : L → Out S B R} {q : Out S B R} (I : Nat → L → Prop) (F : L → Prop) (hA : A) (h0 : I 0 s0) (hs : ∀ (i : Nat) s x, xs[i]? = some x → I i s → p s x ∧ OQ (I (i + 1)) (I (i + 1)) F no1 no1 (fo s x)) (he : ∀ s, I xs.length s → F s) (k : ∀ s, F s → OKK (Pn s) (O s) q) :
    OKK ((A ∧ loopP p fo s0 xs) ∧ (loopL fo s0 xs : Out L B R).Then Pn) ((loopL fo s0 xs : Out L B R).bind O) q := by
  obtain ⟨k1, k2⟩ := loop_inv (C := (no1 : B → Prop)) (K := (no1 : B → Prop)) I F no1 no1 h0 hs he
  obtain ⟨s, e, hF⟩ := OQ.fall_ex k2
  exact OKK.b ⟨hA, k1⟩ e (k s hF)
theorem OKK.loop0 {O : L → Out S B R} {q : Out S B R} (I : Nat → L → Prop) (F : L → Prop) (h0 : I 0 s0) (hs : ∀ (i : Nat) s x, xs[i]? = some x → I i s → p s x ∧ OQ (I (i + 1)) (I (i + 1)) F no1 no1 (fo s x)) (he : ∀ s, I xs.length s → F s) (k : ∀ s, F s → OKK (Pn s) (O s) q) :
    OKK (loopP p fo s0 xs ∧ (loopL fo s0 xs : Out L B R).Then Pn) ((loopL fo s0 xs : Out L B R).bind O) q := by
  obtain ⟨k1, k2⟩ := loop_inv (C := (no1 : B → Prop)) (K := (no1 : B → Prop)) I F no1 no1 h0 hs he
  obtain ⟨s, e, hF⟩ := OQ.fall_ex k2
  exact OKK.b k1 e (k s hF)
theorem OKK.fold {O : L → Out S B R} {q : Out S B R} (I : Nat → L → Prop) (hA : A) (h0 : I 0 s0) (hs : ∀ (i : Nat) s x, xs[i]? = some x → I i s → p s x ∧ I (i + 1) (f s x)) (k : ∀ s, I xs.length s → OKK (Pn s) (O s) q) :
    OKK ((A ∧ foldP p f s0 xs) ∧ lt (xs.foldl f s0) Pn) (lt (xs.foldl f s0) O) q := by
  obtain ⟨k1, k2⟩ := fold_inv I h0 hs
  exact OKK.al ⟨hA, k1⟩ fun s e => k s (by rw [e]; exact k2)
theorem OKK.fold0 {O : L → Out S B R} {q : Out S B R} (I : Nat → L → Prop) (h0 : I 0 s0) (hs : ∀ (i : Nat) s x, xs[i]? = some x → I i s → p s x ∧ I (i + 1) (f s x)) (k : ∀ s, I xs.length s → OKK (Pn s) (O s) q) :
    OKK (foldP p f s0 xs ∧ lt (xs.foldl f s0) Pn) (lt (xs.foldl f s0) O) q := by
  obtain ⟨k1, k2⟩ := fold_inv I h0 hs
  exact OKK.al k1 fun s e => k s (by rw [e]; exact k2)
theorem PQ.fold (I : Nat → L → Prop) (hA : A) (h0 : I 0 s0) (hs : ∀ (i : Nat) s x, xs[i]? = some x → I i s → p s x ∧ I (i + 1) (f s x)) (k : ∀ s, I xs.length s → PQ (Pn s) (V s) Q) :
    PQ ((A ∧ foldP p f s0 xs) ∧ lt (xs.foldl f s0) Pn) (lt (xs.foldl f s0) V) Q := by
  obtain ⟨k1, k2⟩ := fold_inv I h0 hs
  exact PQ.al ⟨hA, k1⟩ fun s e => k s (by rw [e]; exact k2)
theorem PQ.fold0 (I : Nat → L → Prop) (h0 : I 0 s0) (hs : ∀ (i : Nat) s x, xs[i]? = some x → I i s → p s x ∧ I (i + 1) (f s x)) (k : ∀ s, I xs.length s → PQ (Pn s) (V s) Q) :
    PQ (foldP p f s0 xs ∧ lt (xs.foldl f s0) Pn) (lt (xs.foldl f s0) V) Q := by
  obtain ⟨k1, k2⟩ := fold_inv I h0 hs
  exact PQ.al k1 fun s e => k s (by rw [e]; exact k2)
theorem PQ.foldR (I : Nat → L → Prop) (hA : A) (h0 : I 0 s0) (hs : ∀ (i : Nat) s x, xs[i]? = some x → I i s → p s x ∧ I (i + 1) (f s x)) (k : ∀ s, I xs.length s → Q (V s)) :
    PQ (A ∧ foldP p f s0 xs) (lt (xs.foldl f s0) V) Q := by
  obtain ⟨k1, k2⟩ := fold_inv I h0 hs
  exact PQ.ar ⟨hA, k1⟩ fun s e => k s (by rw [e]; exact k2)
theorem PQ.foldR0 (I : Nat → L → Prop) (h0 : I 0 s0) (hs : ∀ (i : Nat) s x, xs[i]? = some x → I i s → p s x ∧ I (i + 1) (f s x)) (k : ∀ s, I xs.length s → Q (V s)) :
    PQ (foldP p f s0 xs) (lt (xs.foldl f s0) V) Q := by
  obtain ⟨k1, k2⟩ := fold_inv I h0 hs
  exact PQ.ar k1 fun s e => k s (by rw [e]; exact k2)
/-- a fold alone -/
theorem PQ.foldE (I : Nat → L → Prop) (h0 : I 0 s0) (hs : ∀ (i : Nat) s x, xs[i]? = some x → I i s → p s x ∧ I (i + 1) (f s x)) (k : ∀ s, I xs.length s → Pn s) :
    PQ (foldP p f s0 xs) (xs.foldl f s0) Pn := by
  obtain ⟨k1, k2⟩ := fold_inv I h0 hs
  exact ⟨k1, k _ k2⟩
end
section
variable {L B R u : Type} {pc : L → Prop} {b : L → Bool} {p : L → Prop} {f : L → Out L L R} {n : Nat} {s0 d : L} {Pn : L → Prop} {Q : u → Prop} {V : L → u}
theorem PQ.whl (I : L → Prop) (m : L → Nat) (F : L → Prop) (hn : m s0 < n) (h0 : I s0) (hs : ∀ s, I s → pc s ∧ (b s = true → p s ∧ OQ (fun s' => I s' ∧ m s' < m s) (fun s' => I s' ∧ m s' < m s) F no1 no1 (f s)) ∧ (b s = false → F s)) (k : ∀ s, F s → PQ (Pn s) (V s) Q) :
    PQ (whileP pc b p f n s0 ∧ lt (fallD (whileL b f n s0 : Out L B R) d) Pn) (lt (fallD (whileL b f n s0 : Out L B R) d) V) Q := by
  obtain ⟨k1, k2⟩ := while_inv (C := (no1 : B → Prop)) (K := (no1 : B → Prop)) I m F no1 no1 n hn h0 hs
  obtain ⟨s, e, hF⟩ := OQ.fall_ex k2
  rw [e]
  exact PQ.a k1 (k s hF)
theorem PQ.whlR (I : L → Prop) (m : L → Nat) (F : L → Prop) (hn : m s0 < n) (h0 : I s0) (hs : ∀ s, I s → pc s ∧ (b s = true → p s ∧ OQ (fun s' => I s' ∧ m s' < m s) (fun s' => I s' ∧ m s' < m s) F no1 no1 (f s)) ∧ (b s = false → F s)) (k : ∀ s, F s → Q (V s)) :
    PQ (whileP pc b p f n s0) (lt (fallD (whileL b f n s0 : Out L B R) d) V) Q := by
  obtain ⟨k1, k2⟩ := while_inv (C := (no1 : B → Prop)) (K := (no1 : B → Prop)) I m F no1 no1 n hn h0 hs
  obtain ⟨s, e, hF⟩ := OQ.fall_ex k2
  rw [e]
  exact ⟨k1, k s hF⟩
end
/-- the items of a range -/
theorem range_at {lo : Int} {n i : Nat} {x : Int} (h : (pyRange lo n)[i]? = some x) : i < n ∧ x = lo + i := by
  have hi := (List.getElem?_eq_some_iff.mp h).1
  rw [pyRange_len] at hi
  rw [pyRange_get hi] at h
  exact ⟨hi, (Option.some.inj h).symm⟩
end BW

set_option Elab.async false
set_option linter.all false
set_option maxRecDepth 100000
set_option maxHeartbeats 4000000
/-! Data of any kind: how deep it is, whether it can be looked at. -/
namespace BW
open PySem L2
def Gd (n : Nat) (d : D) : Prop := PyData.canLay0 (pyd d) = true ∧ (pyd d).depth ≤ n
theorem Gd.mono {n m : Nat} {d : D} (h : Gd n d) (hm : n ≤ m) : Gd m d := ⟨h.1, Nat.le_trans h.2 hm⟩
theorem Gd.int {n : Nat} (i : Int) : Gd n (.int i) := ⟨rfl, Nat.zero_le _⟩
theorem Gd.bl {n : Nat} (i : Bool) : Gd n (.bl i) := ⟨rfl, Nat.zero_le _⟩
theorem Gd.non {n : Nat} : Gd n .non := ⟨rfl, Nat.zero_le _⟩
theorem Gd.str {n : Nat} {x : Str} (h : PyData.canLay0 (.str x) = true) : Gd n (.str x) := ⟨h, Nat.zero_le _⟩
theorem gd_all {n : Nat} : ∀ {xs : List D}, (∀ x ∈ xs, Gd n x) → PyData.canLayAll0 (pyds xs) = true ∧ PyData.depthAll (pyds xs) ≤ n
  | [], _ => ⟨rfl, Nat.zero_le _⟩
  | x :: xs, h => by
    obtain ⟨a, b⟩ := gd_all (xs := xs) fun y hy => h y (List.mem_cons_of_mem _ hy)
    obtain ⟨c, d⟩ := h x List.mem_cons_self
    exact ⟨by show (PyData.canLay0 _ && _) = true; rw [c, a]; rfl, by show max _ _ ≤ _; omega⟩
theorem gd_alls {n : Nat} : ∀ {xs : List D}, PyData.canLayAll0 (pyds xs) = true → PyData.depthAll (pyds xs) ≤ n → ∀ x ∈ xs, Gd n x
  | [], _, _ => fun _ h => nomatch h
  | x :: xs, h, g => fun y hy => by
    obtain ⟨a, b⟩ := Bool.and_eq_true_iff.mp (show (PyData.canLay0 _ && _) = true from h)
    have g2 : max (pyd x).depth (PyData.depthAll (pyds xs)) ≤ n := g
    rcases List.mem_cons.mp hy with e | e
    · subst e; exact ⟨a, by omega⟩
    · exact gd_alls b (by omega) y e
theorem Gd.tup {n : Nat} {xs : List D} (h : ∀ x ∈ xs, Gd n x) : Gd (n + 1) (.tup xs) := ⟨(gd_all h).1, Nat.succ_le_succ (gd_all h).2⟩
theorem Gd.lst {n : Nat} {xs : List D} (h : ∀ x ∈ xs, Gd n x) : Gd (n + 1) (.lst xs) := ⟨(gd_all h).1, Nat.succ_le_succ (gd_all h).2⟩
theorem Gd.items {n : Nat} {d : D} (h : Gd n d) : ∀ x ∈ dTup d, Gd n x := by
  cases d with
  | tup xs =>
    have h2 : PyData.depthAll (pyds xs) + 1 ≤ n := h.2
    exact gd_alls h.1 (Nat.le_trans (Nat.le_succ _) h2)
  | _ => exact fun _ h => nomatch h
theorem Gd.nob {n : Nat} {d : D} (h : Gd n d) : d.isObj = false := by
  cases d with
  | obj _ _ _ _ => cases h.1
  | dic _ _ => cases h.1
  | _ => rfl
theorem Gd.ok {n : Nat} {d : D} (h : Gd n d) (hn : n ≤ 64) : okD' d = true := by
  have h2 : (pyd d).depth ≤ 64 := Nat.le_trans h.2 hn
  show (PyData.canLay0 _ && decide _) = true
  rw [h.1, decide_eq_true h2]; rfl
theorem Gd.refl {n : Nat} {d : D} (h : Gd n d) : eqD d d = true := SeqAt.eqv_refl _ h.1
theorem isIns_tup (d : D) : isIns d "tuple" = isT d := by cases d <;> rfl
theorem isT_tup {d : D} (h : isIns d "tuple" = true) : isT d = true := by rw [← isIns_tup]; exact h
theorem isIns_int (d : D) : (isIns d "int" && !isIns d "bool") = isI d := by cases d <;> rfl
theorem isIns_str (d : D) : isIns d "str" = isS d := by cases d <;> rfl
theorem enc_D (x : D) : (enc x : D) = x := rfl
theorem isI_eq {d : D} (h : isI d = true) : d = .int (dI d) := by cases d <;> first | rfl | cases h
theorem isS_eq {d : D} (h : isS d = true) : d = .str (dS d) := by cases d <;> first | rfl | cases h
theorem eqD_nil (xs : List D) : eqD (enc xs : D) (enc ([] : List D) : D) = xs.isEmpty := by
  cases xs <;> rfl
theorem len3 {t : Type} {xs : List t} (h : xs.length = 3) : ∃ a b c, xs = [a, b, c] := by
  match xs, h with
  | [a, b, c], _ => exact ⟨a, b, c, rfl⟩
theorem toE_enc {d : D} (ht : isT d = true) (hl : (dTup d).length = 3) (hi : ∀ x ∈ dTup d, isI x = true) : (enc d : D) = enc (toE d) := by
  obtain ⟨a, b, c, e⟩ := len3 hl
  have ed := isT_eq ht
  rw [e] at hi
  have ha := isI_eq (hi a (by simp)); have hb := isI_eq (hi b (by simp)); have hc := isI_eq (hi c (by simp))
  show d = _
  rw [ed, e]
  show D.tup [a, b, c] = D.tup [D.int _, D.int _, D.int _]
  rw [ha, hb, hc]
  rfl
end BW

set_option pp.maxSteps 1500
set_option pp.proofs false
set_option Elab.async false
set_option linter.all false
set_option maxRecDepth 100000
set_option maxHeartbeats 4000000
namespace BW
namespace k01
open PySem L2
def v_law_part (kind_ : Int) (far_ : Int) : (AnyR D) :=
  (lt ([(enc ((far_ % (24 : Int)) - (3 : Int)) : D), (enc ((2 : Int) + (far_ % (15 : Int))) : D), (enc (2 : Int) : D), (enc (16 : Int) : D), (enc (1 : Int) : D), (enc (17 : Int) : D), (enc far_ : D), (enc ((0 : Int) - far_) : D), (enc true : D), (enc false : D), (enc () : D), (enc (Str.ofString "8") : D), (enc (Str.ofString "") : D), (enc ([(8 : Int)] : (List Int)) : D), (enc (T1.mk (8 : Int)) : D)] : (List D)) fun some_1 : (List D) => (AnyR.mk (pyGet D.non some_1 (kind_ % (15 : Int)))))
def p_law_part (kind_ : Int) (far_ : Int) : Prop :=
  (lt ([(enc ((far_ % (24 : Int)) - (3 : Int)) : D), (enc ((2 : Int) + (far_ % (15 : Int))) : D), (enc (2 : Int) : D), (enc (16 : Int) : D), (enc (1 : Int) : D), (enc (17 : Int) : D), (enc far_ : D), (enc ((0 : Int) - far_) : D), (enc true : D), (enc false : D), (enc () : D), (enc (Str.ofString "8") : D), (enc (Str.ofString "") : D), (enc ([(8 : Int)] : (List Int)) : D), (enc (T1.mk (8 : Int)) : D)] : (List D)) fun some_1 : (List D) => (IxOk some_1.length (kind_ % (15 : Int))))
def v_law_thing (cell_ : Int) : (AnyR D) :=
  (lt (v_law_drawn cell_ ([(3 : Int), (15 : Int), ((10 : Int) ^ ((40 : Int)).toNat), (14 : Int), (9 : Int), (26 : Int)] : (List Int))) fun q1_ : (List Int) => (lt ([(enc (Str.ofString "none") : D), (enc (Str.ofString "even") : D), (enc (Str.ofString "odd") : D), (enc (Str.ofString "none") : D), (enc (Str.ofString "even") : D), (enc (Str.ofString "odd") : D), (enc (Str.ofString "Even") : D), (enc (Str.ofString "non") : D), (enc (Str.ofString "odds") : D), (enc (Str.ofString "") : D), (enc (Str.ofString " none") : D), (enc () : D), (enc (0 : Int) : D)] : (List D)) fun words_2 : (List D) => (lt (pyGet D.non (words_2 ++ ([(enc (Str.ofString "evn") : D)] : (List D))) (q1_.getD 3 (0 : Int))) fun check_3 : D => (lt (if (decide ((q1_.getD 0 (0 : Int)) = (0 : Int))) = true then (lt (enc (pyGet (Str.ofString "") ([(Str.ofString "none"), (Str.ofString "even"), (Str.ofString "odd")] : (List Str)) ((q1_.getD 3 (0 : Int)) % (3 : Int))) : D) fun check_5 : D => check_5) else check_3) fun s4_ : D => (lt (enc ((2 : Int) + ((q1_.getD 2 (0 : Int)) % (15 : Int))) : D) fun part_6 : D => (lt (if (decide ((0 : Int) < (q1_.getD 0 (0 : Int)))) = true then (lt (v_law_part (q1_.getD 1 (0 : Int)) (q1_.getD 2 (0 : Int))).x fun part_8 : D => part_8) else part_6) fun s7_ : D => (lt (enc (s7_, s4_) : D) fun pair_9 : D => (lt ([pair_9, pair_9, pair_9, pair_9, (enc ([s7_, s4_] : (List D)) : D), (enc (T3.mk s7_ s4_ s4_) : D), (enc (T1.mk s7_) : D), s7_, (enc (pair_9, s4_) : D)] : (List D)) fun shapes_10 : (List D) => (AnyR.mk (pyGet D.non shapes_10 (q1_.getD 4 (0 : Int))))))))))))
def p_law_thing (cell_ : Int) : Prop :=
  (((DrawOk cell_ ([(3 : Int), (15 : Int), ((10 : Int) ^ ((40 : Int)).toNat), (14 : Int), (9 : Int), (26 : Int)] : (List Int))) ∧ ((v_law_drawn cell_ ([(3 : Int), (15 : Int), ((10 : Int) ^ ((40 : Int)).toNat), (14 : Int), (9 : Int), (26 : Int)] : (List Int))).length = 6)) ∧ (lt (v_law_drawn cell_ ([(3 : Int), (15 : Int), ((10 : Int) ^ ((40 : Int)).toNat), (14 : Int), (9 : Int), (26 : Int)] : (List Int))) fun q1_ : (List Int) => (lt ([(enc (Str.ofString "none") : D), (enc (Str.ofString "even") : D), (enc (Str.ofString "odd") : D), (enc (Str.ofString "none") : D), (enc (Str.ofString "even") : D), (enc (Str.ofString "odd") : D), (enc (Str.ofString "Even") : D), (enc (Str.ofString "non") : D), (enc (Str.ofString "odds") : D), (enc (Str.ofString "") : D), (enc (Str.ofString " none") : D), (enc () : D), (enc (0 : Int) : D)] : (List D)) fun words_2 : (List D) => (((words_2.length + ([(enc (Str.ofString "evn") : D)] : (List D)).length ≤ sizeLine) ∧ (IxOk (words_2 ++ ([(enc (Str.ofString "evn") : D)] : (List D))).length (q1_.getD 3 (0 : Int)))) ∧ (lt (pyGet D.non (words_2 ++ ([(enc (Str.ofString "evn") : D)] : (List D))) (q1_.getD 3 (0 : Int))) fun check_3 : D => (((decide ((q1_.getD 0 (0 : Int)) = (0 : Int))) = true → (IxOk ([(Str.ofString "none"), (Str.ofString "even"), (Str.ofString "odd")] : (List Str)).length ((q1_.getD 3 (0 : Int)) % (3 : Int)))) ∧ (lt (if (decide ((q1_.getD 0 (0 : Int)) = (0 : Int))) = true then (lt (enc (pyGet (Str.ofString "") ([(Str.ofString "none"), (Str.ofString "even"), (Str.ofString "odd")] : (List Str)) ((q1_.getD 3 (0 : Int)) % (3 : Int))) : D) fun check_5 : D => check_5) else check_3) fun s4_ : D => (lt (enc ((2 : Int) + ((q1_.getD 2 (0 : Int)) % (15 : Int))) : D) fun part_6 : D => (((decide ((0 : Int) < (q1_.getD 0 (0 : Int)))) = true → (p_law_part (q1_.getD 1 (0 : Int)) (q1_.getD 2 (0 : Int)))) ∧ (lt (if (decide ((0 : Int) < (q1_.getD 0 (0 : Int)))) = true then (lt (v_law_part (q1_.getD 1 (0 : Int)) (q1_.getD 2 (0 : Int))).x fun part_8 : D => part_8) else part_6) fun s7_ : D => (lt (enc (s7_, s4_) : D) fun pair_9 : D => (lt ([pair_9, pair_9, pair_9, pair_9, (enc ([s7_, s4_] : (List D)) : D), (enc (T3.mk s7_ s4_ s4_) : D), (enc (T1.mk s7_) : D), s7_, (enc (pair_9, s4_) : D)] : (List D)) fun shapes_10 : (List D) => (IxOk shapes_10.length (q1_.getD 4 (0 : Int)))))))))))))))
def v_is_whole (thing_ : D) : Bool :=
  ((isIns thing_ "int") && (!(isIns thing_ "bool")))
def p_is_whole (thing_ : D) : Prop :=
  ((D.isObj thing_ = false) ∧ ((isIns thing_ "int") = true → (D.isObj thing_ = false)))
def v_is_form (thing_ : D) : Bool :=
  (if ((!(isIns thing_ "tuple")) || (!decide (((dTup thing_).length : Int) = (2 : Int)))) = true then false else (if ((!(v_is_whole (pyGet D.non (dTup thing_) (0 : Int)))) || (!(isIns (pyGet D.non (dTup thing_) (1 : Int)) "str"))) = true then false else ((decide ((2 : Int) ≤ (dI (pyGet D.non (dTup thing_) (0 : Int)))) && decide ((dI (pyGet D.non (dTup thing_) (0 : Int))) ≤ (16 : Int))) && (([((T3.mk (Str.ofString "none") (Str.ofString "even") (Str.ofString "odd"))).a, ((T3.mk (Str.ofString "none") (Str.ofString "even") (Str.ofString "odd"))).b, ((T3.mk (Str.ofString "none") (Str.ofString "even") (Str.ofString "odd"))).c] : List Str).contains (dS (pyGet D.non (dTup thing_) (1 : Int)))))))
def p_is_form (thing_ : D) : Prop :=
  (((D.isObj thing_ = false) ∧ ((!(!(isIns thing_ "tuple"))) = true → (isT thing_ = true))) ∧ (((!(isIns thing_ "tuple")) || (!decide (((dTup thing_).length : Int) = (2 : Int)))) = true → True) ∧ (((!(isIns thing_ "tuple")) || (!decide (((dTup thing_).length : Int) = (2 : Int)))) = false → ((((isT thing_ = true ∧ IxOk (dTup thing_).length (0 : Int)) ∧ (p_is_whole (pyGet D.non (dTup thing_) (0 : Int)))) ∧ ((!(!(v_is_whole (pyGet D.non (dTup thing_) (0 : Int))))) = true → ((isT thing_ = true ∧ IxOk (dTup thing_).length (1 : Int)) ∧ (D.isObj (pyGet D.non (dTup thing_) (1 : Int)) = false)))) ∧ (((!(v_is_whole (pyGet D.non (dTup thing_) (0 : Int)))) || (!(isIns (pyGet D.non (dTup thing_) (1 : Int)) "str"))) = true → True) ∧ (((!(v_is_whole (pyGet D.non (dTup thing_) (0 : Int)))) || (!(isIns (pyGet D.non (dTup thing_) (1 : Int)) "str"))) = false → (((isT thing_ = true ∧ IxOk (dTup thing_).length (0 : Int)) ∧ (isI (pyGet D.non (dTup thing_) (0 : Int)) = true)) ∧ ((decide ((2 : Int) ≤ (dI (pyGet D.non (dTup thing_) (0 : Int)))) && decide ((dI (pyGet D.non (dTup thing_) (0 : Int))) ≤ (16 : Int))) = true → ((isT thing_ = true ∧ IxOk (dTup thing_).length (1 : Int)) ∧ (isS (pyGet D.non (dTup thing_) (1 : Int)) = true))))))))
def v_law_whole (thing_ : D) : Bool :=
  ((isIns thing_ "int") && (!(isIns thing_ "bool")))
def p_law_whole (thing_ : D) : Prop :=
  ((D.isObj thing_ = false) ∧ ((isIns thing_ "int") = true → (D.isObj thing_ = false)))
def v_law_is_form (thing_ : D) : Bool :=
  (if ((!(isIns thing_ "tuple")) || ((!decide (((dTup thing_).length : Int) = (2 : Int))) || (!(v_law_whole (pyGet D.non (dTup thing_) (0 : Int)))))) = true then false else (if (!(isIns (pyGet D.non (dTup thing_) (1 : Int)) "str")) = true then false else ((decide ((2 : Int) ≤ (dI (pyGet D.non (dTup thing_) (0 : Int)))) && decide ((dI (pyGet D.non (dTup thing_) (0 : Int))) ≤ (16 : Int))) && (([(Str.ofString "none"), (Str.ofString "even"), (Str.ofString "odd")] : (List Str)).contains (dS (pyGet D.non (dTup thing_) (1 : Int)))))))
def p_law_is_form (thing_ : D) : Prop :=
  (((D.isObj thing_ = false) ∧ ((!(!(isIns thing_ "tuple"))) = true → ((isT thing_ = true) ∧ ((!(!decide (((dTup thing_).length : Int) = (2 : Int)))) = true → ((isT thing_ = true ∧ IxOk (dTup thing_).length (0 : Int)) ∧ (p_law_whole (pyGet D.non (dTup thing_) (0 : Int)))))))) ∧ (((!(isIns thing_ "tuple")) || ((!decide (((dTup thing_).length : Int) = (2 : Int))) || (!(v_law_whole (pyGet D.non (dTup thing_) (0 : Int)))))) = true → True) ∧ (((!(isIns thing_ "tuple")) || ((!decide (((dTup thing_).length : Int) = (2 : Int))) || (!(v_law_whole (pyGet D.non (dTup thing_) (0 : Int)))))) = false → (((isT thing_ = true ∧ IxOk (dTup thing_).length (1 : Int)) ∧ (D.isObj (pyGet D.non (dTup thing_) (1 : Int)) = false)) ∧ ((!(isIns (pyGet D.non (dTup thing_) (1 : Int)) "str")) = true → True) ∧ ((!(isIns (pyGet D.non (dTup thing_) (1 : Int)) "str")) = false → (((isT thing_ = true ∧ IxOk (dTup thing_).length (0 : Int)) ∧ (isI (pyGet D.non (dTup thing_) (0 : Int)) = true)) ∧ ((decide ((2 : Int) ≤ (dI (pyGet D.non (dTup thing_) (0 : Int)))) && decide ((dI (pyGet D.non (dTup thing_) (0 : Int))) ≤ (16 : Int))) = true → ((isT thing_ = true ∧ IxOk (dTup thing_).length (1 : Int)) ∧ (isS (pyGet D.non (dTup thing_) (1 : Int)) = true))))))))
def v_law (script_ : Scr) : Bool :=
  (valD (loopL (fun (s1_ : Unit) (x2_ : Int) => ((lt (v_law_thing x2_).x fun thing_4 : D => (lt (v_is_form thing_4) fun found_5 : Bool => (if ((!true) || ((!decide (found_5 = (v_law_is_form thing_4))) || (!eqD thing_4 (v_law_thing x2_).x))) = true then (.ret false) else (.fall ())))) : Out Unit Unit Bool)) () (([(0 : Int)] : (List Int)) ++ (pySlice script_.xs none (some (20 : Int)))) : Out Unit Empty Bool) false fun s6_ : Unit => true)
def p_law (script_ : Scr) : Prop :=
  ((([(0 : Int)] : (List Int)).length + (pySlice script_.xs none (some (20 : Int))).length ≤ sizeLine) ∧ (loopP (fun (s1_ : Unit) (x2_ : Int) => ((p_law_thing x2_) ∧ (lt (v_law_thing x2_).x fun thing_4 : D => ((p_is_form thing_4) ∧ (lt (v_is_form thing_4) fun found_5 : Bool => ((!(!true)) = true → ((p_law_is_form thing_4) ∧ ((!(!decide (found_5 = (v_law_is_form thing_4)))) = true → ((p_law_thing x2_) ∧ (okD' thing_4 = true ∧ okD' (v_law_thing x2_).x = true)))))))))) (fun (s1_ : Unit) (x2_ : Int) => ((lt (v_law_thing x2_).x fun thing_4 : D => (lt (v_is_form thing_4) fun found_5 : Bool => (if ((!true) || ((!decide (found_5 = (v_law_is_form thing_4))) || (!eqD thing_4 (v_law_thing x2_).x))) = true then (.ret false) else (.fall ())))) : Out Unit Unit Bool)) () (([(0 : Int)] : (List Int)) ++ (pySlice script_.xs none (some (20 : Int))))))
end k01
end BW

set_option Elab.async false
set_option linter.all false
set_option maxRecDepth 100000
set_option maxHeartbeats 4000000
namespace BW
namespace k01
open PySem L2
theorem whole_eq (x : D) : v_is_whole x = isI x := isIns_int x
theorem lwhole_eq (x : D) : v_law_whole x = isI x := isIns_int x
theorem p_whole {n : Nat} {x : D} (h : Gd n x) : p_is_whole x := ⟨h.nob, fun _ => h.nob⟩
theorem p_lwhole {n : Nat} {x : D} (h : Gd n x) : p_law_whole x := ⟨h.nob, fun _ => h.nob⟩
theorem len_c (n : Nat) : decide ((n : Int) = 2) = decide (n = 2) := by
  by_cases h : n = 2
  · subst h; rfl
  · rw [decide_eq_false h, decide_eq_false (by omega)]
abbrev ws : List Str := [(Str.ofString "none"), (Str.ofString "even"), (Str.ofString "odd")]
/-- one answer -/
def formB (d : D) : Bool := isT d && (decide ((dTup d).length = 2) && (isI (pyGet D.non (dTup d) 0) && (isS (pyGet D.non (dTup d) 1) && ((decide ((2 : Int) ≤ dI (pyGet D.non (dTup d) 0)) && decide (dI (pyGet D.non (dTup d) 0) ≤ (16 : Int))) && ws.contains (dS (pyGet D.non (dTup d) 1))))))
theorem form_eq (d : D) : v_is_form d = formB d := by
  unfold v_is_form formB
  rw [isIns_tup, isIns_str, len_c, whole_eq]
  generalize (pyGet D.non (dTup d) 0) = x0
  generalize (pyGet D.non (dTup d) 1) = x1
  cases isT d <;> cases decide ((dTup d).length = 2) <;> cases isI x0 <;> cases isS x1 <;> rfl
theorem lform_eq (d : D) : v_law_is_form d = formB d := by
  unfold v_law_is_form formB
  rw [isIns_tup, isIns_str, len_c, lwhole_eq]
  generalize (pyGet D.non (dTup d) 0) = x0
  generalize (pyGet D.non (dTup d) 1) = x1
  cases isT d <;> cases decide ((dTup d).length = 2) <;> cases isI x0 <;> cases isS x1 <;> rfl
theorem ix0 {d : D} (h : (dTup d).length = 2) : IxOk (dTup d).length 0 := by rw [h]; exact ixOk_of (by omega) (by omega)
theorem ix1 {d : D} (h : (dTup d).length = 2) : IxOk (dTup d).length 1 := by rw [h]; exact ixOk_of (by omega) (by omega)
theorem p_form {d : D} (h : Gd 60 d) : p_is_form d := by
  refine ⟨⟨h.nob, fun q => ?_⟩, fun _ => trivial, fun q => ?_⟩
  · exact isT_tup (by simpa using q)
  · simp only [isIns_tup, len_c, Bool.or_eq_false_iff, Bool.not_eq_false', decide_eq_true_eq] at q
    obtain ⟨q1, q2⟩ := q
    have g0 := h.items _ (pyGet_mem D.non _ _ (ix0 q2))
    have g1 := h.items _ (pyGet_mem D.non _ _ (ix1 q2))
    refine ⟨⟨⟨⟨q1, ix0 q2⟩, p_whole g0⟩, fun _ => ⟨⟨q1, ix1 q2⟩, g1.nob⟩⟩, fun _ => trivial, fun r => ?_⟩
    rw [whole_eq, isIns_str] at r
    simp only [Bool.or_eq_false_iff, Bool.not_eq_false'] at r
    exact ⟨⟨⟨q1, ix0 q2⟩, r.1⟩, fun _ => ⟨⟨q1, ix1 q2⟩, r.2⟩⟩
theorem p_lform {d : D} (h : Gd 60 d) : p_law_is_form d := by
  have main : isT d = true → (dTup d).length = 2 → Gd 60 (pyGet D.non (dTup d) 0) ∧ Gd 60 (pyGet D.non (dTup d) 1) := fun _ q2 => ⟨h.items _ (pyGet_mem D.non _ _ (ix0 q2)), h.items _ (pyGet_mem D.non _ _ (ix1 q2))⟩
  refine ⟨⟨h.nob, fun q => ?_⟩, fun _ => trivial, fun q => ?_⟩
  · have q1 := isT_tup (d := d) (by simpa using q)
    refine ⟨q1, fun r => ?_⟩
    have q2 : (dTup d).length = 2 := by simpa [len_c] using r
    exact ⟨⟨q1, ix0 q2⟩, p_lwhole (main q1 q2).1⟩
  · simp only [isIns_tup, len_c, lwhole_eq, Bool.or_eq_false_iff, Bool.not_eq_false', decide_eq_true_eq] at q
    obtain ⟨q1, q2, q3⟩ := q
    refine ⟨⟨⟨q1, ix1 q2⟩, (main q1 q2).2.nob⟩, fun _ => trivial, fun r => ?_⟩
    rw [isIns_str] at r
    simp only [Bool.not_eq_false'] at r
    exact ⟨⟨⟨q1, ix0 q2⟩, q3⟩, fun _ => ⟨⟨q1, ix1 q2⟩, r⟩⟩
theorem part_ok (k far : Int) : p_law_part k far ∧ Gd 3 (v_law_part k far).x := by
  have hk : 0 ≤ k % 15 ∧ k % 15 < 15 := ⟨Int.emod_nonneg _ (by omega), Int.emod_lt_of_pos _ (by omega)⟩
  unfold p_law_part v_law_part lt
  refine ⟨ixOk_of hk.1 (by simp; omega), ?_⟩
  show Gd 3 (pyGet D.non _ _)
  have := pyGet_mem D.non ([(enc ((far % (24 : Int)) - (3 : Int)) : D), (enc ((2 : Int) + (far % (15 : Int))) : D), (enc (2 : Int) : D), (enc (16 : Int) : D), (enc (1 : Int) : D), (enc (17 : Int) : D), (enc far : D), (enc ((0 : Int) - far) : D), (enc true : D), (enc false : D), (enc () : D), (enc (Str.ofString "8") : D), (enc (Str.ofString "") : D), (enc ([(8 : Int)] : (List Int)) : D), (enc (T1.mk (8 : Int)) : D)] : (List D)) (k % 15) (ixOk_of hk.1 (by simp; omega))
  generalize pyGet D.non _ (k % 15) = z at this ⊢
  simp only [List.mem_cons, List.not_mem_nil, or_false] at this
  rcases this with h | h | h | h | h | h | h | h | h | h | h | h | h | h | h <;> rw [h]
  all_goals first
    | exact Gd.int _
    | exact Gd.bl _
    | exact Gd.non
    | exact Gd.str (by decide +kernel)
    | exact Gd.lst (n := 2) fun x hx => by rw [List.mem_singleton.mp hx]; exact Gd.int _
    | exact Gd.tup (n := 2) fun x hx => by rw [List.mem_singleton.mp hx]; exact Gd.int _
theorem thing_ok (c : Int) : p_law_thing c ∧ Gd 60 (v_law_thing c).x := by
  have hs := sizeLine_eq
  have hok : DrawOk c ([(3 : Int), (15 : Int), ((10 : Int) ^ ((40 : Int)).toNat), (14 : Int), (9 : Int), (26 : Int)] : (List Int)) := by refine ⟨by decide, ?_⟩; decide +kernel
  obtain ⟨d0, d1, d2, d3, d4, d5, e, h0, h1, h2, h3, h4, h5⟩ := drawn6 hok
  unfold p_law_thing v_law_thing
  rw [e]
  unfold lt
  simp only [List.getD_cons_zero, List.getD_cons_succ]
  have gw : Gd 3 (pyGet D.non (([(enc (Str.ofString "none") : D), (enc (Str.ofString "even") : D), (enc (Str.ofString "odd") : D), (enc (Str.ofString "none") : D), (enc (Str.ofString "even") : D), (enc (Str.ofString "odd") : D), (enc (Str.ofString "Even") : D), (enc (Str.ofString "non") : D), (enc (Str.ofString "odds") : D), (enc (Str.ofString "") : D), (enc (Str.ofString " none") : D), (enc () : D), (enc (0 : Int) : D)] : (List D)) ++ ([(enc (Str.ofString "evn") : D)] : (List D))) d3) := by
    have := pyGet_mem D.non (([(enc (Str.ofString "none") : D), (enc (Str.ofString "even") : D), (enc (Str.ofString "odd") : D), (enc (Str.ofString "none") : D), (enc (Str.ofString "even") : D), (enc (Str.ofString "odd") : D), (enc (Str.ofString "Even") : D), (enc (Str.ofString "non") : D), (enc (Str.ofString "odds") : D), (enc (Str.ofString "") : D), (enc (Str.ofString " none") : D), (enc () : D), (enc (0 : Int) : D)] : (List D)) ++ ([(enc (Str.ofString "evn") : D)] : (List D))) d3 (ixOk_of h3.1 (by simp; omega))
    generalize pyGet D.non _ d3 = z at this ⊢
    simp only [List.cons_append, List.nil_append, List.mem_cons, List.not_mem_nil, or_false] at this
    rcases this with h | h | h | h | h | h | h | h | h | h | h | h | h | h <;> rw [h]
    all_goals first
      | exact Gd.int _
      | exact Gd.non
      | exact Gd.str (by decide +kernel)
  generalize hck : pyGet D.non _ d3 = ck at gw ⊢
  have h33 : 0 ≤ d3 % 3 ∧ d3 % 3 < 3 := ⟨Int.emod_nonneg _ (by omega), Int.emod_lt_of_pos _ (by omega)⟩
  generalize hc2 : (if decide (d0 = 0) = true then (enc (pyGet (Str.ofString "") ws (d3 % 3)) : D) else ck) = c2
  have gc2 : Gd 3 c2 := by
    rw [← hc2]
    split
    · exact pick3 h33 (fun s => Gd 3 (enc s : D)) (Gd.str (by decide +kernel)) (Gd.str (by decide +kernel)) (Gd.str (by decide +kernel))
    · exact gw
  generalize hp2 : (if decide (0 < d0) = true then (v_law_part d1 d2).x else (enc (2 + d2 % 15) : D)) = p2
  have gp2 : Gd 3 p2 := by
    rw [← hp2]
    split
    · exact (part_ok d1 d2).2
    · exact Gd.int _
  refine ⟨⟨⟨hok, rfl⟩, ⟨by simp; omega, ixOk_of h3.1 (by simp; omega)⟩, fun _ => ixOk_of h33.1 (by simp; omega), fun _ => (part_ok d1 d2).1, ixOk_of h4.1 (by simp; omega)⟩, ?_⟩
  show Gd 60 (pyGet D.non _ _)
  have := pyGet_mem D.non ([(enc (p2, c2) : D), (enc (p2, c2) : D), (enc (p2, c2) : D), (enc (p2, c2) : D), (enc ([p2, c2] : (List D)) : D), (enc (T3.mk p2 c2 c2) : D), (enc (T1.mk p2) : D), p2, (enc ((enc (p2, c2) : D), c2) : D)] : (List D)) d4 (ixOk_of h4.1 (by simp; omega))
  generalize pyGet D.non _ d4 = z at this ⊢
  have gt : Gd 4 (enc (p2, c2) : D) := Gd.tup (n := 3) (xs := [p2, c2]) fun x hx => by
    simp only [List.mem_cons, List.not_mem_nil, or_false] at hx
    rcases hx with h | h <;> rw [h] <;> assumption
  simp only [List.mem_cons, List.not_mem_nil, or_false] at this
  rcases this with h | h | h | h | h | h | h | h | h <;> rw [h]
  · exact gt.mono (by omega)
  · exact gt.mono (by omega)
  · exact gt.mono (by omega)
  · exact gt.mono (by omega)
  · exact (Gd.lst (n := 3) (xs := [p2, c2]) fun x hx => by
      simp only [List.mem_cons, List.not_mem_nil, or_false] at hx
      rcases hx with h | h <;> rw [h] <;> assumption).mono (by omega)
  · exact (Gd.tup (n := 3) (xs := [p2, c2, c2]) fun x hx => by
      simp only [List.mem_cons, List.not_mem_nil, or_false] at hx
      rcases hx with h | h | h <;> rw [h] <;> assumption).mono (by omega)
  · exact (Gd.tup (n := 3) (xs := [p2]) fun x hx => by rw [List.mem_singleton.mp hx]; exact gp2).mono (by omega)
  · exact gp2.mono (by omega)
  · exact (Gd.tup (n := 4) (xs := [(enc (p2, c2) : D), c2]) fun x hx => by
      simp only [List.mem_cons, List.not_mem_nil, or_false] at hx
      rcases hx with h | h <;> rw [h]
      · exact gt
      · exact gc2.mono (by omega)).mono (by omega)
theorem pure_law (ns : List Int) (h : ns.length ≤ 63) : (p_law ⟨ns⟩) ∧ v_law ⟨ns⟩ = true := by
  have hs := sizeLine_eq
  have hsl := pySlice_len ns none (some (20 : Int))
  unfold p_law v_law
  refine (fun hk => ⟨⟨by simp; omega, hk.1⟩, by rw [hk.2]; rfl⟩) (loop_unit (xs := [(0 : Int)] ++ pySlice ns none (some (20 : Int))) fun cell hc => ?_)
  obtain ⟨h1, h2⟩ := thing_ok cell
  refine OKK.al h1 fun thing ht => ?_
  subst ht
  refine OKK.al (p_form h2) fun found hf => ?_
  subst hf
  have e1 : ((!true) || ((!decide (v_is_form (v_law_thing cell).x = v_law_is_form (v_law_thing cell).x)) || (!eqD (v_law_thing cell).x (v_law_thing cell).x))) = false := by
    rw [form_eq, lform_eq, h2.refl]; simp
  exact ⟨fun _ => ⟨p_lform h2, fun _ => ⟨h1, h2.ok (by omega), h2.ok (by omega)⟩⟩, by rw [e1]; rfl⟩
end k01
end BW

set_option pp.maxSteps 1500
set_option pp.proofs false
set_option Elab.async false
set_option linter.all false
set_option maxRecDepth 100000
set_option maxHeartbeats 4000000
namespace BW
namespace k01
open PySem L2
def top (i : Nat) : Stmt := PySem.Challenge.pw_barewire_k01_what_is_a_form.main.body.getD i (.Pass ⟨0, 0, 0, 0⟩)
abbrev s_law_stir : Stmt := top 8
abbrev N_law_stir : List Str := ["cell", "k", "number"]
abbrev sc_law_stir : Scope := defScope s_law_stir
theorem b_law_stir {X : L2.Cx} {W : WX} (C : Cxf X N_law_stir sc_law_stir) (hfn : X.fn = fun _ => true) (tk : Takes X W) (own : PassesOwn (model X.prog X.w) X.A X.env X.xe) (hr : Room 0 X.A) (cell_ : Int) (k_ : Int) :
    SX X W (g0 N_law_stir.length [enc cell_, enc k_]) (defBody s_law_stir) (p_law_stir cell_ k_) noG noG (.ret (v_law_stir cell_ k_) : Out Empty Empty Int) := by
  have U0 : Vr N_law_stir sc_law_stir 0 "cell" := vr 0
  have V0 : Vs X N_law_stir sc_law_stir 0 "cell" := by first | exact vl 0 | exact vc hfn 0 | skip
  have U1 : Vr N_law_stir sc_law_stir 1 "k" := vr 1
  have V1 : Vs X N_law_stir sc_law_stir 1 "k" := by first | exact vl 1 | exact vc hfn 1 | skip
  have U2 : Vr N_law_stir sc_law_stir 2 "number" := vr 2
  have V2 : Vs X N_law_stir sc_law_stir 2 "number" := by first | exact vl 2 | exact vc hfn 2 | skip
  delta v_law_stir p_law_stir
  exact (sx_setV C.toCx0 2 V2 (EX.shr (ex_mul (ex_add (ex_add (ex_modK (ex_flt C.toCx0 0 U0) (ex_powK ex_int ex_int .t (by decide +kernel)) .t (by decide +kernel)) (ex_mul ex_int (ex_flt C.toCx0 1 U1) .t (.r _)) (.r _)) ex_int (.l _)) ex_int (.l _) (.b _ _))) (fun number_1 => (sx_setV C.toCx0 2 V2 (EX.shr (ex_modK (ex_flt C.toCx0 2 U2) ex_int .t (by decide +kernel))) (fun number_2 => (sx_ret (ex_divK (ex_modK (ex_pow (ex_add (ex_pow (ex_flt C.toCx0 2 U2) ex_int .t (.r _)) (ex_mul ex_int (ex_flt C.toCx0 1 U1) .t (.r _)) (.b _ _)) ex_int (.l _) (.b _ _)) ex_int (.l _) (by decide +kernel)) ex_int (.l _) (by decide +kernel)))) (.r _))) (.b _ _))
theorem S_law_stir : FnScope N_law_stir ["cell", "k"] sc_law_stir := ⟨rfl, rfl, rfl, by decide +kernel, rfl, by decide +kernel, by decide +kernel⟩
theorem c_law_stir {P : Program} {w : World} {K : PySem.W.Frag} {mg : Str → Option Value} {base : Heap} {f : Addr} {fd : FuncData} (F : FnP K "_law_stir" s_law_stir f fd) (hm : mg "_law_stir" = some (.ref f)) : Cal P w K mg base "_law_stir" 1 ["cell", "k"] (spV K mg (fun a : (Int × Int) => [enc a.1, enc a.2]) (fun a => (StirOk a.1 a.2)) (fun a => v_law_stir a.1 a.2)) :=
  (cal_mk (k := 1) F hm (F.bindsN fun _ _ _ _ _ _ us hl => match us, hl with | [_, _], _ => rfl) (fn_ok (encs := (fun a : (Int × Int) => [enc a.1, enc a.2])) (pre := fun a => p_law_stir a.1 a.2) (o := fun a => (.ret (v_law_stir a.1 a.2) : Out Empty Empty Int)) F S_law_stir (fun _ => rfl) fun cdv A outer s H E hr a => b_law_stir ⟨⟨rfl, rfl, S_law_stir.nd⟩, rfl⟩ rfl (takes_of rfl rfl rfl rfl) (passes_of rfl) hr  a.1 a.2) (fun a h => ⟨(nice_law_stir a.1 a.2 h).1, congrArg Except.ok (nice_law_stir a.1 a.2 h).2⟩))
abbrev s_law_drawn : Stmt := top 9
abbrev N_law_drawn : List Str := ["cell", "sizes", "found", "rest", "k"]
abbrev sc_law_drawn : Scope := defScope s_law_drawn
theorem b_law_drawn {X : L2.Cx} {W : WX} (C : Cxf X N_law_drawn sc_law_drawn) (hfn : X.fn = fun _ => true) (tk : Takes X W) (own : PassesOwn (model X.prog X.w) X.A X.env X.xe) (hr : Room 1 X.A) (m_len : X.mg "len" = none) (m_range : X.mg "range" = none) (F__law_stir : Cal X.prog X.w X.K X.mg X.base "_law_stir" 1 ["cell", "k"] (spV X.K X.mg (fun a : (Int × Int) => [enc a.1, enc a.2]) (fun a => (StirOk a.1 a.2)) (fun a => v_law_stir a.1 a.2))) (cell_ : Int) (sizes_ : (List Int)) :
    SX X W (g0 N_law_drawn.length [enc cell_, enc sizes_]) (defBody s_law_drawn) (p_law_drawn cell_ sizes_) noG noG (.ret (v_law_drawn cell_ sizes_) : Out Empty Empty (List Int)) := by
  have U0 : Vr N_law_drawn sc_law_drawn 0 "cell" := vr 0
  have V0 : Vs X N_law_drawn sc_law_drawn 0 "cell" := by first | exact vl 0 | exact vc hfn 0 | skip
  have U1 : Vr N_law_drawn sc_law_drawn 1 "sizes" := vr 1
  have V1 : Vs X N_law_drawn sc_law_drawn 1 "sizes" := by first | exact vl 1 | exact vc hfn 1 | skip
  have U2 : Vr N_law_drawn sc_law_drawn 2 "found" := vr 2
  have V2 : Vs X N_law_drawn sc_law_drawn 2 "found" := by first | exact vl 2 | exact vc hfn 2 | skip
  have U3 : Vr N_law_drawn sc_law_drawn 3 "rest" := vr 3
  have V3 : Vs X N_law_drawn sc_law_drawn 3 "rest" := by first | exact vl 3 | exact vc hfn 3 | skip
  have U4 : Vr N_law_drawn sc_law_drawn 4 "k" := vr 4
  have V4 : Vs X N_law_drawn sc_law_drawn 4 "k" := by first | exact vl 4 | exact vc hfn 4 | skip
  delta v_law_drawn p_law_drawn
  exact (SX.nf [.val false (enc cell_), .val false (enc sizes_), .no, .no, .no] rfl (sx_ownV C.toCx0 2 V2 (ex_list (xs := ([] : (List Int))) (ax_nil (k := .frs))) (fun found_1 => (SX.nf [.val false (enc cell_), .val false (enc sizes_), .val true (enc found_1), .no, .no] rfl (sx_setV C.toCx0 3 V3 (EX.shr (ex_flt C.toCx0 0 U0)) (fun rest_2 => (SX.nf [.val false (enc cell_), .val false (enc sizes_), .val true (enc found_1), .val false (enc rest_2), .no] rfl (S1.seqV (g1 := (fun s3_ : ((List Int) × Int) => [.val false (enc cell_), .val false (enc sizes_), .val true (enc s3_.1), .val false (enc s3_.2), .no])) (s1_for (gL := (fun s3_ : ((List Int) × Int) => [.val false (enc cell_), .val false (enc sizes_), .val true (enc s3_.1), .val false (enc s3_.2), .no])) (pB := (fun (s3_ : ((List Int) × Int)) (x4_ : Int) => (True ∧ (((decide (cell_ < ((10 : Int) ^ ((18 : Int)).toNat))) || (decide (s3_.2 = (0 : Int)))) = true → ((((StirOk cell_ x4_) ∧ (IxOk sizes_.length x4_)) ∧ ((0 : Int) < (pyGet (0 : Int) sizes_ x4_))) ∧ (LenOk (s3_.1.length + 1)))) ∧ (((decide (cell_ < ((10 : Int) ^ ((18 : Int)).toNat))) || (decide (s3_.2 = (0 : Int)))) = false → ((((IxOk sizes_.length x4_) ∧ ((0 : Int) < (pyGet (0 : Int) sizes_ x4_))) ∧ (LenOk (s3_.1.length + 1))) ∧ (lt (s3_.1 ++ [(s3_.2 % (pyGet (0 : Int) sizes_ x4_))]) fun found_7 : (List Int) => ((IxOk sizes_.length x4_) ∧ (DivOk s3_.2 (pyGet (0 : Int) sizes_ x4_))))))))) (fB := (fun (s3_ : ((List Int) × Int)) (x4_ : Int) => (if ((decide (cell_ < ((10 : Int) ^ ((18 : Int)).toNat))) || (decide (s3_.2 = (0 : Int)))) = true then (lt (s3_.1 ++ [((v_law_stir cell_ x4_) % (pyGet (0 : Int) sizes_ x4_))]) fun found_6 : (List Int) => (found_6, s3_.2)) else (lt (s3_.1 ++ [(s3_.2 % (pyGet (0 : Int) sizes_ x4_))]) fun found_7 : (List Int) => (lt (s3_.2 / (pyGet (0 : Int) sizes_ x4_)) fun rest_8 : Int => (found_7, rest_8)))))) C own (ix_range C rfl m_range (ex_len C rfl m_len (ex_var C.toCx0 1 U1)) (.r _)) (tg_name C 4 V4) (fun _ => rfl) (found_1, rest_2) (.sm (.sm (.sm (.sm (.nn .z))))) (fun (s3_ : ((List Int) × Int)) (x4_ : Int) => (SX.nf [.val false (enc cell_), .val false (enc sizes_), .val true (enc s3_.1), .val false (enc s3_.2), .val false (enc x4_)] rfl (sx_ifF (tx_of (wx_or (CMP.tx (cm_lt (ex_flt C.toCx0 0 U0) (ex_powK ex_int ex_int .t (by decide +kernel)) .t)) (wx_or1 (CMP.tx (cm_eq hr.units (ex_flt C.toCx0 3 U3) ex_int .t))) .t)) (SX.nf [.val false (enc cell_), .val false (enc sizes_), .val true (enc s3_.1), .val false (enc s3_.2), .val false (enc x4_)] rfl (sx_appendF C.toCx0 2 U2 (ex_mod (ex_call C F__law_stir (hr.mono (by decide)) rfl (cell_, x4_) (ax_cons (EX.any (ex_flt C.toCx0 0 U0)) (ax_cons (EX.any (ex_flt C.toCx0 4 U4)) ax_nil .t) .t) (.r _)) (ex_ixL (0 : Int) (ex_var C.toCx0 1 U1) (ex_flt C.toCx0 4 U4) .t (.r _)) (.b _ _) (.b _ _)) (fun found_6 => (sx_nil (found_6, s3_.2) (.sm (.sm (.sm (.sm (.nn .z))))))) (.b _ _) (.l _))) (SX.nf [.val false (enc cell_), .val false (enc sizes_), .val true (enc s3_.1), .val false (enc s3_.2), .val false (enc x4_)] rfl (sx_appendF C.toCx0 2 U2 (ex_mod (ex_flt C.toCx0 3 U3) (ex_ixL (0 : Int) (ex_var C.toCx0 1 U1) (ex_flt C.toCx0 4 U4) .t (.r _)) (.r _) (.b _ _)) (fun found_7 => (SX.nf [.val false (enc cell_), .val false (enc sizes_), .val true (enc found_7), .val false (enc s3_.2), .val false (enc x4_)] rfl (sx_setF C.toCx0 3 V3 (EX.shr (ex_div (ex_flt C.toCx0 3 U3) (ex_ixL (0 : Int) (ex_var C.toCx0 1 U1) (ex_flt C.toCx0 4 U4) .t (.r _)) (.r _) (.b _ _))) (fun rest_8 => (sx_nil (found_7, rest_8) (.sm (.sm (.sm (.sm (.nn .z))))))) (.l _)))) (.b _ _) (.b _ _))) (.g _ _ _)))) (.b _ _)) (fun s9_ => (SX.nf [.val false (enc cell_), .val false (enc sizes_), .val true (enc s9_.1), .val false (enc s9_.2), .no] rfl (sx_retO C 2 U2))) (.l _)))) (.r _)))) (.r _)))
theorem S_law_drawn : FnScope N_law_drawn ["cell", "sizes"] sc_law_drawn := ⟨rfl, rfl, rfl, by decide +kernel, rfl, by decide +kernel, by decide +kernel⟩
theorem c_law_drawn {P : Program} {w : World} {K : PySem.W.Frag} {mg : Str → Option Value} {base : Heap} {f : Addr} {fd : FuncData} (F : FnP K "_law_drawn" s_law_drawn f fd) (hm : mg "_law_drawn" = some (.ref f)) (m_len : mg "len" = none) (m_range : mg "range" = none) (F__law_stir : Cal P w K mg base "_law_stir" 1 ["cell", "k"] (spV K mg (fun a : (Int × Int) => [enc a.1, enc a.2]) (fun a => (StirOk a.1 a.2)) (fun a => v_law_stir a.1 a.2))) : Cal P w K mg base "_law_drawn" 2 ["cell", "sizes"] (spV K mg (fun a : (Int × (List Int)) => [enc a.1, enc a.2]) (fun a => (DrawOk a.1 a.2)) (fun a => v_law_drawn a.1 a.2)) :=
  (cal_mk (k := 2) F hm (F.bindsN fun _ _ _ _ _ _ us hl => match us, hl with | [_, _], _ => rfl) (fn_ok (encs := (fun a : (Int × (List Int)) => [enc a.1, enc a.2])) (pre := fun a => p_law_drawn a.1 a.2) (o := fun a => (.ret (v_law_drawn a.1 a.2) : Out Empty Empty (List Int))) F S_law_drawn (fun _ => rfl) fun cdv A outer s H E hr a => b_law_drawn ⟨⟨rfl, rfl, S_law_drawn.nd⟩, rfl⟩ rfl (takes_of rfl rfl rfl rfl) (passes_of rfl) hr m_len m_range F__law_stir a.1 a.2) (fun a h => ⟨(nice_law_drawn a.1 a.2 h).1, congrArg Except.ok (nice_law_drawn a.1 a.2 h).2⟩))
abbrev s_law_part : Stmt := top 11
abbrev N_law_part : List Str := ["kind", "far", "some"]
abbrev sc_law_part : Scope := defScope s_law_part
theorem b_law_part {X : L2.Cx} {W : WX} (C : Cxf X N_law_part sc_law_part) (hfn : X.fn = fun _ => true) (tk : Takes X W) (own : PassesOwn (model X.prog X.w) X.A X.env X.xe) (hr : Room 0 X.A) (kind_ : Int) (far_ : Int) :
    SX X W (g0 N_law_part.length [enc kind_, enc far_]) (defBody s_law_part) (p_law_part kind_ far_) noG noG (.ret (v_law_part kind_ far_) : Out Empty Empty (AnyR D)) := by
  have U0 : Vr N_law_part sc_law_part 0 "kind" := vr 0
  have V0 : Vs X N_law_part sc_law_part 0 "kind" := by first | exact vl 0 | exact vc hfn 0 | skip
  have U1 : Vr N_law_part sc_law_part 1 "far" := vr 1
  have V1 : Vs X N_law_part sc_law_part 1 "far" := by first | exact vl 1 | exact vc hfn 1 | skip
  have U2 : Vr N_law_part sc_law_part 2 "some" := vr 2
  have V2 : Vs X N_law_part sc_law_part 2 "some" := by first | exact vl 2 | exact vc hfn 2 | skip
  delta v_law_part p_law_part
  exact (sx_setV C.toCx0 2 V2 (EX.shr (ex_list (xs := ([(enc ((far_ % (24 : Int)) - (3 : Int)) : D), (enc ((2 : Int) + (far_ % (15 : Int))) : D), (enc (2 : Int) : D), (enc (16 : Int) : D), (enc (1 : Int) : D), (enc (17 : Int) : D), (enc far_ : D), (enc ((0 : Int) - far_) : D), (enc true : D), (enc false : D), (enc () : D), (enc (Str.ofString "8") : D), (enc (Str.ofString "") : D), (enc ([(8 : Int)] : (List Int)) : D), (enc (T1.mk (8 : Int)) : D)] : (List D))) (ax_cons (EX.toD (ex_sub (ex_modK (ex_flt C.toCx0 1 U1) ex_int .t (by decide +kernel)) ex_int .t)) (ax_cons (EX.toD (ex_add ex_int (ex_modK (ex_flt C.toCx0 1 U1) ex_int .t (by decide +kernel)) .t)) (ax_cons (EX.toD ex_int) (ax_cons (EX.toD ex_int) (ax_cons (EX.toD ex_int) (ax_cons (EX.toD ex_int) (ax_cons (EX.toD (ex_flt C.toCx0 1 U1)) (ax_cons (EX.toD (ex_sub ex_int (ex_flt C.toCx0 1 U1) .t)) (ax_cons (EX.toD ex_bl) (ax_cons (EX.toD ex_bl) (ax_cons (EX.toD ex_non) (ax_cons (EX.toD ex_str) (ax_cons (EX.toD ex_str) (ax_cons (EX.toD (ex_list (xs := ([(8 : Int)] : (List Int))) (ax_cons ex_int ax_nil .t))) (ax_cons (EX.toD (ex_tup (x := (T1.mk (8 : Int))) (ax_cons ex_int ax_nil .t))) ax_nil .t) .t) .t) .t) .t) .t) .t) .t) .t) .t) .t) .t) .t) .t) .t))) (fun some_1 => (sx_retA (ex_ixL D.non (ex_var C.toCx0 2 U2) (ex_modK (ex_flt C.toCx0 0 U0) ex_int .t (by decide +kernel)) .t (.r _)))) (.r _))
theorem S_law_part : FnScope N_law_part ["kind", "far"] sc_law_part := ⟨rfl, rfl, rfl, by decide +kernel, rfl, by decide +kernel, by decide +kernel⟩
theorem c_law_part {P : Program} {w : World} {K : PySem.W.Frag} {mg : Str → Option Value} {base : Heap} {f : Addr} {fd : FuncData} (F : FnP K "_law_part" s_law_part f fd) (hm : mg "_law_part" = some (.ref f)) : Cal P w K mg base "_law_part" 1 ["kind", "far"] (spA K (fun a : (Int × Int) => [enc a.1, enc a.2]) (fun a => (p_law_part a.1 a.2)) (fun a => v_law_part a.1 a.2)) :=
  (calA_mk (k := 1) F hm (F.bindsN fun _ _ _ _ _ _ us hl => match us, hl with | [_, _], _ => rfl) (fn_okA (encs := (fun a : (Int × Int) => [enc a.1, enc a.2])) (pre := fun a => p_law_part a.1 a.2) (val := fun a => v_law_part a.1 a.2) F S_law_part (fun _ => rfl) fun cdv A outer s H E hr a => b_law_part ⟨⟨rfl, rfl, S_law_part.nd⟩, rfl⟩ rfl (takes_of rfl rfl rfl rfl) (passes_of rfl) hr  a.1 a.2) (fun a h => ⟨h, rfl⟩))
abbrev s_law_thing : Stmt := top 12
abbrev N_law_thing : List Str := ["cell", "words", "check", "part", "pair", "shapes", "kind", "first", "far", "word", "shape", "odd"]
abbrev sc_law_thing : Scope := defScope s_law_thing
theorem b_law_thing {X : L2.Cx} {W : WX} (C : Cxf X N_law_thing sc_law_thing) (hfn : X.fn = fun _ => true) (tk : Takes X W) (own : PassesOwn (model X.prog X.w) X.A X.env X.xe) (hr : Room 2 X.A) (F__law_drawn : Cal X.prog X.w X.K X.mg X.base "_law_drawn" 2 ["cell", "sizes"] (spV X.K X.mg (fun a : (Int × (List Int)) => [enc a.1, enc a.2]) (fun a => (DrawOk a.1 a.2)) (fun a => v_law_drawn a.1 a.2))) (F__law_part : Cal X.prog X.w X.K X.mg X.base "_law_part" 1 ["kind", "far"] (spA X.K (fun a : (Int × Int) => [enc a.1, enc a.2]) (fun a => (p_law_part a.1 a.2)) (fun a => v_law_part a.1 a.2))) (cell_ : Int) :
    SX X W (g0 N_law_thing.length [enc cell_]) (defBody s_law_thing) (p_law_thing cell_) noG noG (.ret (v_law_thing cell_) : Out Empty Empty (AnyR D)) := by
  have U0 : Vr N_law_thing sc_law_thing 0 "cell" := vr 0
  have V0 : Vs X N_law_thing sc_law_thing 0 "cell" := by first | exact vl 0 | exact vc hfn 0 | skip
  have U1 : Vr N_law_thing sc_law_thing 1 "words" := vr 1
  have V1 : Vs X N_law_thing sc_law_thing 1 "words" := by first | exact vl 1 | exact vc hfn 1 | skip
  have U2 : Vr N_law_thing sc_law_thing 2 "check" := vr 2
  have V2 : Vs X N_law_thing sc_law_thing 2 "check" := by first | exact vl 2 | exact vc hfn 2 | skip
  have U3 : Vr N_law_thing sc_law_thing 3 "part" := vr 3
  have V3 : Vs X N_law_thing sc_law_thing 3 "part" := by first | exact vl 3 | exact vc hfn 3 | skip
  have U4 : Vr N_law_thing sc_law_thing 4 "pair" := vr 4
  have V4 : Vs X N_law_thing sc_law_thing 4 "pair" := by first | exact vl 4 | exact vc hfn 4 | skip
  have U5 : Vr N_law_thing sc_law_thing 5 "shapes" := vr 5
  have V5 : Vs X N_law_thing sc_law_thing 5 "shapes" := by first | exact vl 5 | exact vc hfn 5 | skip
  have U6 : Vr N_law_thing sc_law_thing 6 "kind" := vr 6
  have V6 : Vs X N_law_thing sc_law_thing 6 "kind" := by first | exact vl 6 | exact vc hfn 6 | skip
  have U7 : Vr N_law_thing sc_law_thing 7 "first" := vr 7
  have V7 : Vs X N_law_thing sc_law_thing 7 "first" := by first | exact vl 7 | exact vc hfn 7 | skip
  have U8 : Vr N_law_thing sc_law_thing 8 "far" := vr 8
  have V8 : Vs X N_law_thing sc_law_thing 8 "far" := by first | exact vl 8 | exact vc hfn 8 | skip
  have U9 : Vr N_law_thing sc_law_thing 9 "word" := vr 9
  have V9 : Vs X N_law_thing sc_law_thing 9 "word" := by first | exact vl 9 | exact vc hfn 9 | skip
  have U10 : Vr N_law_thing sc_law_thing 10 "shape" := vr 10
  have V10 : Vs X N_law_thing sc_law_thing 10 "shape" := by first | exact vl 10 | exact vc hfn 10 | skip
  have U11 : Vr N_law_thing sc_law_thing 11 "odd" := vr 11
  have V11 : Vs X N_law_thing sc_law_thing 11 "odd" := by first | exact vl 11 | exact vc hfn 11 | skip
  delta v_law_thing p_law_thing
  exact (SX.nf [.val false (enc cell_), .no, .no, .no, .no, .no, .no, .no, .no, .no, .no, .no] rfl (sx_tgtLV (tg_lst C (tgs_nm (fun x : (List Int) => x.getD 0 (0 : Int)) C 6 V6 (tgs_nm (fun x : (List Int) => x.getD 1 (0 : Int)) C 7 V7 (tgs_nm (fun x : (List Int) => x.getD 2 (0 : Int)) C 8 V8 (tgs_nm (fun x : (List Int) => x.getD 3 (0 : Int)) C 9 V9 (tgs_nm (fun x : (List Int) => x.getD 4 (0 : Int)) C 10 V10 (tgs_nm (fun x : (List Int) => x.getD 5 (0 : Int)) C 11 V11 tgs_nil)))))) (fun xs h => match xs, h with | [a0, a1, a2, a3, a4, a5], _ => rfl)) (by rfl) (EX.shr (ex_call C F__law_drawn (hr.mono (by decide)) rfl (cell_, ([(3 : Int), (15 : Int), ((10 : Int) ^ ((40 : Int)).toNat), (14 : Int), (9 : Int), (26 : Int)] : (List Int))) (ax_cons (EX.any (ex_flt C.toCx0 0 U0)) (ax_cons (EX.any (ex_list (xs := ([(3 : Int), (15 : Int), ((10 : Int) ^ ((40 : Int)).toNat), (14 : Int), (9 : Int), (26 : Int)] : (List Int))) (ax_cons ex_int (ax_cons ex_int (ax_cons (ex_powK ex_int ex_int .t (by decide +kernel)) (ax_cons ex_int (ax_cons ex_int (ax_cons ex_int ax_nil .t) .t) .t) .t) .t) .t))) ax_nil .t) .t) (.r _))) (fun q1_ => (SX.nf [.val false (enc cell_), .no, .no, .no, .no, .no, .val false (enc (q1_.getD 0 (0 : Int))), .val false (enc (q1_.getD 1 (0 : Int))), .val false (enc (q1_.getD 2 (0 : Int))), .val false (enc (q1_.getD 3 (0 : Int))), .val false (enc (q1_.getD 4 (0 : Int))), .val false (enc (q1_.getD 5 (0 : Int)))] rfl (sx_setV C.toCx0 1 V1 (EX.shr (ex_list (xs := ([(enc (Str.ofString "none") : D), (enc (Str.ofString "even") : D), (enc (Str.ofString "odd") : D), (enc (Str.ofString "none") : D), (enc (Str.ofString "even") : D), (enc (Str.ofString "odd") : D), (enc (Str.ofString "Even") : D), (enc (Str.ofString "non") : D), (enc (Str.ofString "odds") : D), (enc (Str.ofString "") : D), (enc (Str.ofString " none") : D), (enc () : D), (enc (0 : Int) : D)] : (List D))) (ax_cons (EX.toD ex_str) (ax_cons (EX.toD ex_str) (ax_cons (EX.toD ex_str) (ax_cons (EX.toD ex_str) (ax_cons (EX.toD ex_str) (ax_cons (EX.toD ex_str) (ax_cons (EX.toD ex_str) (ax_cons (EX.toD ex_str) (ax_cons (EX.toD ex_str) (ax_cons (EX.toD ex_str) (ax_cons (EX.toD ex_str) (ax_cons (EX.toD ex_non) (ax_cons (EX.toD ex_int) ax_nil .t) .t) .t) .t) .t) .t) .t) .t) .t) .t) .t) .t) .t))) (fun words_2 => (SX.nf [.val false (enc cell_), .val false (enc words_2), .no, .no, .no, .no, .val false (enc (q1_.getD 0 (0 : Int))), .val false (enc (q1_.getD 1 (0 : Int))), .val false (enc (q1_.getD 2 (0 : Int))), .val false (enc (q1_.getD 3 (0 : Int))), .val false (enc (q1_.getD 4 (0 : Int))), .val false (enc (q1_.getD 5 (0 : Int)))] rfl (sx_setV C.toCx0 2 V2 (ex_ixL D.non (ex_cat (ex_var C.toCx0 1 U1) (EX.shr (ex_list (xs := ([(enc (Str.ofString "evn") : D)] : (List D))) (ax_cons (EX.toD ex_str) ax_nil .t))) .t (.r _)) (ex_flt C.toCx0 9 U9) (.l _) (.b _ _)) (fun check_3 => (SX.nf [.val false (enc cell_), .val false (enc words_2), .val false (enc check_3), .no, .no, .no, .val false (enc (q1_.getD 0 (0 : Int))), .val false (enc (q1_.getD 1 (0 : Int))), .val false (enc (q1_.getD 2 (0 : Int))), .val false (enc (q1_.getD 3 (0 : Int))), .val false (enc (q1_.getD 4 (0 : Int))), .val false (enc (q1_.getD 5 (0 : Int)))] rfl (sx_ifsV (g1 := (fun s4_ : D => [.val false (enc cell_), .val false (enc words_2), .val false (enc s4_), .no, .no, .no, .val false (enc (q1_.getD 0 (0 : Int))), .val false (enc (q1_.getD 1 (0 : Int))), .val false (enc (q1_.getD 2 (0 : Int))), .val false (enc (q1_.getD 3 (0 : Int))), .val false (enc (q1_.getD 4 (0 : Int))), .val false (enc (q1_.getD 5 (0 : Int)))])) (CMP.tx (cm_eq hr.units (ex_flt C.toCx0 6 U6) ex_int .t)) (SX.nf [.val false (enc cell_), .val false (enc words_2), .val false (enc check_3), .no, .no, .no, .val false (enc (q1_.getD 0 (0 : Int))), .val false (enc (q1_.getD 1 (0 : Int))), .val false (enc (q1_.getD 2 (0 : Int))), .val false (enc (q1_.getD 3 (0 : Int))), .val false (enc (q1_.getD 4 (0 : Int))), .val false (enc (q1_.getD 5 (0 : Int)))] rfl (sx_setF C.toCx0 2 V2 (EX.toD (ex_ixL (Str.ofString "") (ex_list (xs := ([(Str.ofString "none"), (Str.ofString "even"), (Str.ofString "odd")] : (List Str))) (ax_cons ex_str (ax_cons ex_str (ax_cons ex_str ax_nil .t) .t) .t)) (ex_modK (ex_flt C.toCx0 9 U9) ex_int .t (by decide +kernel)) .t (.r _))) (fun check_5 => (sx_nil check_5 (.sm (.sm (.sm (.nn (.nn (.nn (.sm (.sm (.sm (.sm (.sm (.sm .z)))))))))))))) (.l _))) (sx_nil check_3 (.sm (.sm (.sm (.nn (.nn (.nn (.sm (.sm (.sm (.sm (.sm (.sm .z))))))))))))) (.a _) (fun s4_ => (SX.nf [.val false (enc cell_), .val false (enc words_2), .val false (enc s4_), .no, .no, .no, .val false (enc (q1_.getD 0 (0 : Int))), .val false (enc (q1_.getD 1 (0 : Int))), .val false (enc (q1_.getD 2 (0 : Int))), .val false (enc (q1_.getD 3 (0 : Int))), .val false (enc (q1_.getD 4 (0 : Int))), .val false (enc (q1_.getD 5 (0 : Int)))] rfl (sx_setV C.toCx0 3 V3 (EX.shr (EX.toD (ex_add ex_int (ex_modK (ex_flt C.toCx0 8 U8) ex_int .t (by decide +kernel)) .t))) (fun part_6 => (SX.nf [.val false (enc cell_), .val false (enc words_2), .val false (enc s4_), .val false (enc part_6), .no, .no, .val false (enc (q1_.getD 0 (0 : Int))), .val false (enc (q1_.getD 1 (0 : Int))), .val false (enc (q1_.getD 2 (0 : Int))), .val false (enc (q1_.getD 3 (0 : Int))), .val false (enc (q1_.getD 4 (0 : Int))), .val false (enc (q1_.getD 5 (0 : Int)))] rfl (sx_ifsV (g1 := (fun s7_ : D => [.val false (enc cell_), .val false (enc words_2), .val false (enc s4_), .val false (enc s7_), .no, .no, .val false (enc (q1_.getD 0 (0 : Int))), .val false (enc (q1_.getD 1 (0 : Int))), .val false (enc (q1_.getD 2 (0 : Int))), .val false (enc (q1_.getD 3 (0 : Int))), .val false (enc (q1_.getD 4 (0 : Int))), .val false (enc (q1_.getD 5 (0 : Int)))])) (CMP.tx (cm_gt (ex_flt C.toCx0 6 U6) ex_int .t)) (SX.nf [.val false (enc cell_), .val false (enc words_2), .val false (enc s4_), .val false (enc part_6), .no, .no, .val false (enc (q1_.getD 0 (0 : Int))), .val false (enc (q1_.getD 1 (0 : Int))), .val false (enc (q1_.getD 2 (0 : Int))), .val false (enc (q1_.getD 3 (0 : Int))), .val false (enc (q1_.getD 4 (0 : Int))), .val false (enc (q1_.getD 5 (0 : Int)))] rfl (sx_setAnyF C.toCx0 3 V3 (ex_callA C F__law_part (hr.mono (by decide)) rfl ((q1_.getD 1 (0 : Int)), (q1_.getD 2 (0 : Int))) (ax_cons (EX.any (ex_flt C.toCx0 7 U7)) (ax_cons (EX.any (ex_flt C.toCx0 8 U8)) ax_nil .t) .t) (.r _)) (fun part_8 => (sx_nil part_8 (.sm (.sm (.sm (.sm (.nn (.nn (.sm (.sm (.sm (.sm (.sm (.sm .z)))))))))))))) (.l _))) (sx_nil part_6 (.sm (.sm (.sm (.sm (.nn (.nn (.sm (.sm (.sm (.sm (.sm (.sm .z))))))))))))) (.a _) (fun s7_ => (SX.nf [.val false (enc cell_), .val false (enc words_2), .val false (enc s4_), .val false (enc s7_), .no, .no, .val false (enc (q1_.getD 0 (0 : Int))), .val false (enc (q1_.getD 1 (0 : Int))), .val false (enc (q1_.getD 2 (0 : Int))), .val false (enc (q1_.getD 3 (0 : Int))), .val false (enc (q1_.getD 4 (0 : Int))), .val false (enc (q1_.getD 5 (0 : Int)))] rfl (sx_setV C.toCx0 4 V4 (EX.toD (ex_tup (x := (s7_, s4_)) (ax_cons (ex_var C.toCx0 3 U3) (ax_cons (ex_var C.toCx0 2 U2) ax_nil .t) .t))) (fun pair_9 => (SX.nf [.val false (enc cell_), .val false (enc words_2), .val false (enc s4_), .val false (enc s7_), .val false (enc pair_9), .no, .val false (enc (q1_.getD 0 (0 : Int))), .val false (enc (q1_.getD 1 (0 : Int))), .val false (enc (q1_.getD 2 (0 : Int))), .val false (enc (q1_.getD 3 (0 : Int))), .val false (enc (q1_.getD 4 (0 : Int))), .val false (enc (q1_.getD 5 (0 : Int)))] rfl (sx_setV C.toCx0 5 V5 (ex_list (xs := ([pair_9, pair_9, pair_9, pair_9, (enc ([s7_, s4_] : (List D)) : D), (enc (T3.mk s7_ s4_ s4_) : D), (enc (T1.mk s7_) : D), s7_, (enc (pair_9, s4_) : D)] : (List D))) (ax_cons (ex_var C.toCx0 4 U4) (ax_cons (ex_var C.toCx0 4 U4) (ax_cons (ex_var C.toCx0 4 U4) (ax_cons (ex_var C.toCx0 4 U4) (ax_cons (EX.toD (ex_list (xs := ([s7_, s4_] : (List D))) (ax_cons (ex_var C.toCx0 3 U3) (ax_cons (ex_var C.toCx0 2 U2) ax_nil .t) .t))) (ax_cons (EX.toD (ex_tup (x := (T3.mk s7_ s4_ s4_)) (ax_cons (ex_var C.toCx0 3 U3) (ax_cons (ex_var C.toCx0 2 U2) (ax_cons (ex_var C.toCx0 2 U2) ax_nil .t) .t) .t))) (ax_cons (EX.toD (ex_tup (x := (T1.mk s7_)) (ax_cons (ex_var C.toCx0 3 U3) ax_nil .t))) (ax_cons (ex_var C.toCx0 3 U3) (ax_cons (EX.toD (ex_tup (x := (pair_9, s4_)) (ax_cons (ex_var C.toCx0 4 U4) (ax_cons (ex_var C.toCx0 2 U2) ax_nil .t) .t))) ax_nil .t) .t) .t) .t) .t) .t) .t) .t) .t)) (fun shapes_10 => (SX.nf [.val false (enc cell_), .val false (enc words_2), .val false (enc s4_), .val false (enc s7_), .val false (enc pair_9), .val false (enc shapes_10), .val false (enc (q1_.getD 0 (0 : Int))), .val false (enc (q1_.getD 1 (0 : Int))), .val false (enc (q1_.getD 2 (0 : Int))), .val false (enc (q1_.getD 3 (0 : Int))), .val false (enc (q1_.getD 4 (0 : Int))), .val false (enc (q1_.getD 5 (0 : Int)))] rfl (sx_retA (ex_ixL D.non (ex_var C.toCx0 5 U5) (ex_flt C.toCx0 10 U10) .t (.r _))))) (.r _)))) (.r _)))) (.b _ _)))) (.r _)))) (.b _ _)))) (.b _ _)))) (.r _)))) (.b _ _) (.b _ _)))
theorem S_law_thing : FnScope N_law_thing ["cell"] sc_law_thing := ⟨rfl, rfl, rfl, by decide +kernel, rfl, by decide +kernel, by decide +kernel⟩
theorem c_law_thing {P : Program} {w : World} {K : PySem.W.Frag} {mg : Str → Option Value} {base : Heap} {f : Addr} {fd : FuncData} (F : FnP K "_law_thing" s_law_thing f fd) (hm : mg "_law_thing" = some (.ref f)) (F__law_drawn : Cal P w K mg base "_law_drawn" 2 ["cell", "sizes"] (spV K mg (fun a : (Int × (List Int)) => [enc a.1, enc a.2]) (fun a => (DrawOk a.1 a.2)) (fun a => v_law_drawn a.1 a.2))) (F__law_part : Cal P w K mg base "_law_part" 1 ["kind", "far"] (spA K (fun a : (Int × Int) => [enc a.1, enc a.2]) (fun a => (p_law_part a.1 a.2)) (fun a => v_law_part a.1 a.2))) : Cal P w K mg base "_law_thing" 3 ["cell"] (spA K (fun a : Int => [enc a]) (fun a => (p_law_thing a)) (fun a => v_law_thing a)) :=
  (calA_mk (k := 3) F hm (F.bindsN fun _ _ _ _ _ _ us hl => match us, hl with | [_], _ => rfl) (fn_okA (encs := (fun a : Int => [enc a])) (pre := fun a => p_law_thing a) (val := fun a => v_law_thing a) F S_law_thing (fun _ => rfl) fun cdv A outer s H E hr a => b_law_thing ⟨⟨rfl, rfl, S_law_thing.nd⟩, rfl⟩ rfl (takes_of rfl rfl rfl rfl) (passes_of rfl) hr F__law_drawn F__law_part a) (fun a h => ⟨h, rfl⟩))
abbrev s_is_whole : Stmt := top 4
abbrev N_is_whole : List Str := ["thing"]
abbrev sc_is_whole : Scope := defScope s_is_whole
theorem b_is_whole {X : L2.Cx} {W : WX} (C : Cxf X N_is_whole sc_is_whole) (hfn : X.fn = fun _ => true) (tk : Takes X W) (own : PassesOwn (model X.prog X.w) X.A X.env X.xe) (hr : Room 0 X.A) (m_bool : X.mg "bool" = none) (m_int : X.mg "int" = none) (m_isinstance : X.mg "isinstance" = none) (thing_ : D) :
    SX X W (g0 N_is_whole.length [enc thing_]) (defBody s_is_whole) (p_is_whole thing_) noG noG (.ret (v_is_whole thing_) : Out Empty Empty Bool) := by
  have U0 : Vr N_is_whole sc_is_whole 0 "thing" := vr 0
  have V0 : Vs X N_is_whole sc_is_whole 0 "thing" := by first | exact vl 0 | exact vc hfn 0 | skip
  delta v_is_whole p_is_whole
  exact (sx_ret (ex_andV (ex_isiD (isIns thing_ "int") C rfl m_isinstance rfl m_int PyProof.Rows.boot_int (ex_var C.toCx0 0 U0) (.r _)) (ex_one (ex_not (ex_isiD (isIns thing_ "bool") C rfl m_isinstance rfl m_bool PyProof.Rows.boot_bool (ex_var C.toCx0 0 U0) (.r _)))) (.b _ _)))
theorem S_is_whole : FnScope N_is_whole ["thing"] sc_is_whole := ⟨rfl, rfl, rfl, by decide +kernel, rfl, by decide +kernel, by decide +kernel⟩
theorem c_is_whole {P : Program} {w : World} {K : PySem.W.Frag} {mg : Str → Option Value} {base : Heap} {f : Addr} {fd : FuncData} (F : FnP K "is_whole" s_is_whole f fd) (hm : mg "is_whole" = some (.ref f)) (m_bool : mg "bool" = none) (m_int : mg "int" = none) (m_isinstance : mg "isinstance" = none) : Cal P w K mg base "is_whole" 1 ["thing"] (spV K mg (fun a : D => [enc a]) (fun a => (p_is_whole a)) (fun a => v_is_whole a)) :=
  (cal_mk (k := 1) F hm (F.bindsN fun _ _ _ _ _ _ us hl => match us, hl with | [_], _ => rfl) (fn_ok (encs := (fun a : D => [enc a])) (pre := fun a => p_is_whole a) (o := fun a => (.ret (v_is_whole a) : Out Empty Empty Bool)) F S_is_whole (fun _ => rfl) fun cdv A outer s H E hr a => b_is_whole ⟨⟨rfl, rfl, S_is_whole.nd⟩, rfl⟩ rfl (takes_of rfl rfl rfl rfl) (passes_of rfl) hr m_bool m_int m_isinstance a) (fun a h => ⟨h, rfl⟩))
abbrev s_is_form : Stmt := top 5
abbrev N_is_form : List Str := ["thing"]
abbrev sc_is_form : Scope := defScope s_is_form
theorem b_is_form {X : L2.Cx} {W : WX} (C : Cxf X N_is_form sc_is_form) (hfn : X.fn = fun _ => true) (tk : Takes X W) (own : PassesOwn (model X.prog X.w) X.A X.env X.xe) (hr : Room 1 X.A) (m_isinstance : X.mg "isinstance" = none) (m_len : X.mg "len" = none) (m_str : X.mg "str" = none) (m_tuple : X.mg "tuple" = none) (k_FEWEST_BITS : ∃ t, X.mg "FEWEST_BITS" = some (.int 2 t)) (k_MOST_BITS : ∃ t, X.mg "MOST_BITS" = some (.int 16 t)) (k_CHECKS : TupG X.K X.mg "CHECKS" (T3.mk (Str.ofString "none") (Str.ofString "even") (Str.ofString "odd"))) (F_is_whole : Cal X.prog X.w X.K X.mg X.base "is_whole" 1 ["thing"] (spV X.K X.mg (fun a : D => [enc a]) (fun a => (p_is_whole a)) (fun a => v_is_whole a))) (thing_ : D) :
    SX X W (g0 N_is_form.length [enc thing_]) (defBody s_is_form) (p_is_form thing_) noG noG (.ret (v_is_form thing_) : Out Empty Empty Bool) := by
  have U0 : Vr N_is_form sc_is_form 0 "thing" := vr 0
  have V0 : Vs X N_is_form sc_is_form 0 "thing" := by first | exact vl 0 | exact vc hfn 0 | skip
  delta v_is_form p_is_form
  exact (sx_ifrV (tx_of (wx_or (TX.not (EX.tx (ex_isiD (isIns thing_ "tuple") C rfl m_isinstance rfl m_tuple PyProof.Rows.boot_tuple (ex_var C.toCx0 0 U0) (.r _)))) (wx_or1 (CMP.tx (cm_ne hr.units (ex_lenD C rfl m_len (ex_var C.toCx0 0 U0) (.r _)) ex_int (.l _)))) (.b _ _))) (sx_ret ex_bl) (sx_ifrV (tx_of (wx_or (TX.not (EX.tx (ex_call C F_is_whole (hr.mono (by decide)) rfl (pyGet D.non (dTup thing_) (0 : Int)) (ax_cons (EX.any (ex_ixD (ex_var C.toCx0 0 U0) ex_int .t (.r _))) ax_nil (.l _)) (.b _ _)))) (wx_or1 (TX.not (EX.tx (ex_isiD (isIns (pyGet D.non (dTup thing_) (1 : Int)) "str") C rfl m_isinstance rfl m_str PyProof.Rows.boot_str (ex_ixD (ex_var C.toCx0 0 U0) ex_int .t (.r _)) (.b _ _))))) (.b _ _))) (sx_ret ex_bl) (sx_ret (ex_andV (CMP.ex (cm_lele (ex_globI C rfl k_FEWEST_BITS) (EX.asI (ex_ixD (ex_var C.toCx0 0 U0) ex_int .t (.r _)) (.b _ _)) (ex_globI C rfl k_MOST_BITS) (.r _) (.l _))) (ex_one (CMP.ex (cm_inT3S (EX.asS (ex_ixD (ex_var C.toCx0 0 U0) ex_int .t (.r _)) (.b _ _)) (ex_globT C rfl k_CHECKS) (.l _)))) (.b _ _))) (.g _ _ _)) (.g _ _ _))
theorem S_is_form : FnScope N_is_form ["thing"] sc_is_form := ⟨rfl, rfl, rfl, by decide +kernel, rfl, by decide +kernel, by decide +kernel⟩
theorem c_is_form {P : Program} {w : World} {K : PySem.W.Frag} {mg : Str → Option Value} {base : Heap} {f : Addr} {fd : FuncData} (F : FnP K "is_form" s_is_form f fd) (hm : mg "is_form" = some (.ref f)) (m_isinstance : mg "isinstance" = none) (m_len : mg "len" = none) (m_str : mg "str" = none) (m_tuple : mg "tuple" = none) (k_FEWEST_BITS : ∃ t, mg "FEWEST_BITS" = some (.int 2 t)) (k_MOST_BITS : ∃ t, mg "MOST_BITS" = some (.int 16 t)) (k_CHECKS : TupG K mg "CHECKS" (T3.mk (Str.ofString "none") (Str.ofString "even") (Str.ofString "odd"))) (F_is_whole : Cal P w K mg base "is_whole" 1 ["thing"] (spV K mg (fun a : D => [enc a]) (fun a => (p_is_whole a)) (fun a => v_is_whole a))) : Cal P w K mg base "is_form" 2 ["thing"] (spV K mg (fun a : D => [enc a]) (fun a => (p_is_form a)) (fun a => v_is_form a)) :=
  (cal_mk (k := 2) F hm (F.bindsN fun _ _ _ _ _ _ us hl => match us, hl with | [_], _ => rfl) (fn_ok (encs := (fun a : D => [enc a])) (pre := fun a => p_is_form a) (o := fun a => (.ret (v_is_form a) : Out Empty Empty Bool)) F S_is_form (fun _ => rfl) fun cdv A outer s H E hr a => b_is_form ⟨⟨rfl, rfl, S_is_form.nd⟩, rfl⟩ rfl (takes_of rfl rfl rfl rfl) (passes_of rfl) hr m_isinstance m_len m_str m_tuple k_FEWEST_BITS k_MOST_BITS k_CHECKS F_is_whole a) (fun a h => ⟨h, rfl⟩))
abbrev s_law_whole : Stmt := top 10
abbrev N_law_whole : List Str := ["thing"]
abbrev sc_law_whole : Scope := defScope s_law_whole
theorem b_law_whole {X : L2.Cx} {W : WX} (C : Cxf X N_law_whole sc_law_whole) (hfn : X.fn = fun _ => true) (tk : Takes X W) (own : PassesOwn (model X.prog X.w) X.A X.env X.xe) (hr : Room 0 X.A) (m_bool : X.mg "bool" = none) (m_int : X.mg "int" = none) (m_isinstance : X.mg "isinstance" = none) (thing_ : D) :
    SX X W (g0 N_law_whole.length [enc thing_]) (defBody s_law_whole) (p_law_whole thing_) noG noG (.ret (v_law_whole thing_) : Out Empty Empty Bool) := by
  have U0 : Vr N_law_whole sc_law_whole 0 "thing" := vr 0
  have V0 : Vs X N_law_whole sc_law_whole 0 "thing" := by first | exact vl 0 | exact vc hfn 0 | skip
  delta v_law_whole p_law_whole
  exact (sx_ret (ex_andV (ex_isiD (isIns thing_ "int") C rfl m_isinstance rfl m_int PyProof.Rows.boot_int (ex_var C.toCx0 0 U0) (.r _)) (ex_one (ex_not (ex_isiD (isIns thing_ "bool") C rfl m_isinstance rfl m_bool PyProof.Rows.boot_bool (ex_var C.toCx0 0 U0) (.r _)))) (.b _ _)))
theorem S_law_whole : FnScope N_law_whole ["thing"] sc_law_whole := ⟨rfl, rfl, rfl, by decide +kernel, rfl, by decide +kernel, by decide +kernel⟩
theorem c_law_whole {P : Program} {w : World} {K : PySem.W.Frag} {mg : Str → Option Value} {base : Heap} {f : Addr} {fd : FuncData} (F : FnP K "_law_whole" s_law_whole f fd) (hm : mg "_law_whole" = some (.ref f)) (m_bool : mg "bool" = none) (m_int : mg "int" = none) (m_isinstance : mg "isinstance" = none) : Cal P w K mg base "_law_whole" 1 ["thing"] (spV K mg (fun a : D => [enc a]) (fun a => (p_law_whole a)) (fun a => v_law_whole a)) :=
  (cal_mk (k := 1) F hm (F.bindsN fun _ _ _ _ _ _ us hl => match us, hl with | [_], _ => rfl) (fn_ok (encs := (fun a : D => [enc a])) (pre := fun a => p_law_whole a) (o := fun a => (.ret (v_law_whole a) : Out Empty Empty Bool)) F S_law_whole (fun _ => rfl) fun cdv A outer s H E hr a => b_law_whole ⟨⟨rfl, rfl, S_law_whole.nd⟩, rfl⟩ rfl (takes_of rfl rfl rfl rfl) (passes_of rfl) hr m_bool m_int m_isinstance a) (fun a h => ⟨h, rfl⟩))
abbrev s_law_is_form : Stmt := top 13
abbrev N_law_is_form : List Str := ["thing"]
abbrev sc_law_is_form : Scope := defScope s_law_is_form
theorem b_law_is_form {X : L2.Cx} {W : WX} (C : Cxf X N_law_is_form sc_law_is_form) (hfn : X.fn = fun _ => true) (tk : Takes X W) (own : PassesOwn (model X.prog X.w) X.A X.env X.xe) (hr : Room 1 X.A) (m_isinstance : X.mg "isinstance" = none) (m_len : X.mg "len" = none) (m_str : X.mg "str" = none) (m_tuple : X.mg "tuple" = none) (F__law_whole : Cal X.prog X.w X.K X.mg X.base "_law_whole" 1 ["thing"] (spV X.K X.mg (fun a : D => [enc a]) (fun a => (p_law_whole a)) (fun a => v_law_whole a))) (thing_ : D) :
    SX X W (g0 N_law_is_form.length [enc thing_]) (defBody s_law_is_form) (p_law_is_form thing_) noG noG (.ret (v_law_is_form thing_) : Out Empty Empty Bool) := by
  have U0 : Vr N_law_is_form sc_law_is_form 0 "thing" := vr 0
  have V0 : Vs X N_law_is_form sc_law_is_form 0 "thing" := by first | exact vl 0 | exact vc hfn 0 | skip
  delta v_law_is_form p_law_is_form
  exact (sx_ifrV (tx_of (wx_or (TX.not (EX.tx (ex_isiD (isIns thing_ "tuple") C rfl m_isinstance rfl m_tuple PyProof.Rows.boot_tuple (ex_var C.toCx0 0 U0) (.r _)))) (wx_or (CMP.tx (cm_ne hr.units (ex_lenD C rfl m_len (ex_var C.toCx0 0 U0) (.r _)) ex_int (.l _))) (wx_or1 (TX.not (EX.tx (ex_call C F__law_whole (hr.mono (by decide)) rfl (pyGet D.non (dTup thing_) (0 : Int)) (ax_cons (EX.any (ex_ixD (ex_var C.toCx0 0 U0) ex_int .t (.r _))) ax_nil (.l _)) (.b _ _))))) (.b _ _)) (.b _ _))) (sx_ret ex_bl) (sx_ifrV (TX.not (EX.tx (ex_isiD (isIns (pyGet D.non (dTup thing_) (1 : Int)) "str") C rfl m_isinstance rfl m_str PyProof.Rows.boot_str (ex_ixD (ex_var C.toCx0 0 U0) ex_int .t (.r _)) (.b _ _)))) (sx_ret ex_bl) (sx_ret (ex_andV (CMP.ex (cm_lele ex_int (EX.asI (ex_ixD (ex_var C.toCx0 0 U0) ex_int .t (.r _)) (.b _ _)) ex_int (.r _) (.l _))) (ex_one (CMP.ex (cm_inS (EX.asS (ex_ixD (ex_var C.toCx0 0 U0) ex_int .t (.r _)) (.b _ _)) (ex_list (xs := ([(Str.ofString "none"), (Str.ofString "even"), (Str.ofString "odd")] : (List Str))) (ax_cons ex_str (ax_cons ex_str (ax_cons ex_str ax_nil .t) .t) .t)) (.l _)))) (.b _ _))) (.g _ _ _)) (.g _ _ _))
theorem S_law_is_form : FnScope N_law_is_form ["thing"] sc_law_is_form := ⟨rfl, rfl, rfl, by decide +kernel, rfl, by decide +kernel, by decide +kernel⟩
theorem c_law_is_form {P : Program} {w : World} {K : PySem.W.Frag} {mg : Str → Option Value} {base : Heap} {f : Addr} {fd : FuncData} (F : FnP K "_law_is_form" s_law_is_form f fd) (hm : mg "_law_is_form" = some (.ref f)) (m_isinstance : mg "isinstance" = none) (m_len : mg "len" = none) (m_str : mg "str" = none) (m_tuple : mg "tuple" = none) (F__law_whole : Cal P w K mg base "_law_whole" 1 ["thing"] (spV K mg (fun a : D => [enc a]) (fun a => (p_law_whole a)) (fun a => v_law_whole a))) : Cal P w K mg base "_law_is_form" 2 ["thing"] (spV K mg (fun a : D => [enc a]) (fun a => (p_law_is_form a)) (fun a => v_law_is_form a)) :=
  (cal_mk (k := 2) F hm (F.bindsN fun _ _ _ _ _ _ us hl => match us, hl with | [_], _ => rfl) (fn_ok (encs := (fun a : D => [enc a])) (pre := fun a => p_law_is_form a) (o := fun a => (.ret (v_law_is_form a) : Out Empty Empty Bool)) F S_law_is_form (fun _ => rfl) fun cdv A outer s H E hr a => b_law_is_form ⟨⟨rfl, rfl, S_law_is_form.nd⟩, rfl⟩ rfl (takes_of rfl rfl rfl rfl) (passes_of rfl) hr m_isinstance m_len m_str m_tuple F__law_whole a) (fun a h => ⟨h, rfl⟩))
abbrev s_law : Stmt := top 14
abbrev N_law : List Str := ["script", "cell", "thing", "found"]
abbrev sc_law : Scope := defScope s_law
theorem b_law {X : L2.Cx} {W : WX} (C : Cxf X N_law sc_law) (hfn : X.fn = fun _ => true) (tk : Takes X W) (own : PassesOwn (model X.prog X.w) X.A X.env X.xe) (hr : Room 3 X.A) (m_bool : X.mg "bool" = none) (m_isinstance : X.mg "isinstance" = none) (F__law_thing : Cal X.prog X.w X.K X.mg X.base "_law_thing" 3 ["cell"] (spA X.K (fun a : Int => [enc a]) (fun a => (p_law_thing a)) (fun a => v_law_thing a))) (F_is_form : Cal X.prog X.w X.K X.mg X.base "is_form" 2 ["thing"] (spV X.K X.mg (fun a : D => [enc a]) (fun a => (p_is_form a)) (fun a => v_is_form a))) (F__law_is_form : Cal X.prog X.w X.K X.mg X.base "_law_is_form" 2 ["thing"] (spV X.K X.mg (fun a : D => [enc a]) (fun a => (p_law_is_form a)) (fun a => v_law_is_form a))) (script_ : Scr) :
    SX X W (g0 N_law.length [enc script_]) (defBody s_law) (p_law script_) noG noG (.ret (v_law script_) : Out Empty Empty Bool) := by
  have U0 : Vr N_law sc_law 0 "script" := vr 0
  have V0 : Vs X N_law sc_law 0 "script" := by first | exact vl 0 | exact vc hfn 0 | skip
  have U1 : Vr N_law sc_law 1 "cell" := vr 1
  have V1 : Vs X N_law sc_law 1 "cell" := by first | exact vl 1 | exact vc hfn 1 | skip
  have U2 : Vr N_law sc_law 2 "thing" := vr 2
  have V2 : Vs X N_law sc_law 2 "thing" := by first | exact vl 2 | exact vc hfn 2 | skip
  have U3 : Vr N_law sc_law 3 "found" := vr 3
  have V3 : Vs X N_law sc_law 3 "found" := by first | exact vl 3 | exact vc hfn 3 | skip
  delta v_law p_law
  exact (SX.nf [.val false (enc script_), .no, .no, .no] rfl (S1.bindVT (g1 := (fun s1_ : Unit => [.val false (enc script_), .no, .no, .no])) (s1_forL (gL := (fun s1_ : Unit => [.val false (enc script_), .no, .no, .no])) (pB := (fun (s1_ : Unit) (x2_ : Int) => ((p_law_thing x2_) ∧ (lt (v_law_thing x2_).x fun thing_4 : D => ((p_is_form thing_4) ∧ (lt (v_is_form thing_4) fun found_5 : Bool => ((!(!true)) = true → ((p_law_is_form thing_4) ∧ ((!(!decide (found_5 = (v_law_is_form thing_4)))) = true → ((p_law_thing x2_) ∧ (okD' thing_4 = true ∧ okD' (v_law_thing x2_).x = true))))))))))) (oB := (fun (s1_ : Unit) (x2_ : Int) => ((lt (v_law_thing x2_).x fun thing_4 : D => (lt (v_is_form thing_4) fun found_5 : Bool => (if ((!true) || ((!decide (found_5 = (v_law_is_form thing_4))) || (!eqD thing_4 (v_law_thing x2_).x))) = true then (.ret false) else (.fall ())))) : Out Unit Unit Bool))) C own (ix_list (EX.shr (ex_catF (ex_list (xs := ([(0 : Int)] : (List Int))) (ax_cons ex_int ax_nil .t)) (ex_sliceS (p2' := True) (ex_flt C.toCx0 0 U0) ox_none (ox_some ex_int) .t .t) .t (.r _)))) (tg_name C 1 V1) (fun _ => rfl) () (.sm (.nn (.nn (.nn .z)))) (fun (s1_ : Unit) (x2_ : Int) => (SX.nf [.val false (enc script_), .val false (enc x2_), .no, .no] rfl (sx_setAny C.toCx0 2 V2 (ex_callA C F__law_thing (hr.mono (by decide)) rfl x2_ (ax_cons (EX.any (ex_flt C.toCx0 1 U1)) ax_nil .t) (.r _)) (fun thing_4 => (SX.nf [.val false (enc script_), .val false (enc x2_), .val false (enc thing_4), .no] rfl (sx_set C.toCx0 3 V3 (EX.shr (ex_call C F_is_form (hr.mono (by decide)) rfl thing_4 (ax_cons (EX.any (ex_var C.toCx0 2 U2)) ax_nil .t) (.r _))) (fun found_5 => (SX.nf [.val false (enc script_), .val false (enc x2_), .val false (enc thing_4), .val false (enc found_5)] rfl (sx_ifr (tx_of (wx_or (TX.not (EX.tx (ex_isi true C rfl m_isinstance rfl m_bool PyProof.Rows.boot_bool (ex_flt C.toCx0 3 U3)))) (wx_or (CMP.tx (cm_ne hr.units (ex_flt C.toCx0 3 U3) (ex_call C F__law_is_form (hr.mono (by decide)) rfl thing_4 (ax_cons (EX.any (ex_var C.toCx0 2 U2)) ax_nil .t) (.r _)) (.r _))) (wx_or1 (CMP.tx (cm_neD hr.units (ex_var C.toCx0 2 U2) (ex_callA C F__law_thing (hr.mono (by decide)) rfl x2_ (ax_cons (EX.any (ex_flt C.toCx0 1 U1)) ax_nil .t) (.r _)) (.r _) (.b _ _)))) (.b _ _)) (.r _))) (SX.nf [.val false (enc script_), .val false (enc x2_), .val false (enc thing_4), .val false (enc found_5)] rfl (sx_ret ex_bl)) (.ret _) (sx_nil () (.sm (.nn (.nn (.nn .z))))) (.c _)))) (.b _ _)))) (.b _ _)))) (.b _ _)) false (loopL_fin (fun _ _ => (.lt (fun _ => (.lt (fun _ => (.ite (.ret _) (.fall _))))))) _ _) (fun s6_ => (SX.nf [.val false (enc script_), .no, .no, .no] rfl (sx_ret ex_bl))) ))
theorem S_law : FnScope N_law ["script"] sc_law := ⟨rfl, rfl, rfl, by decide +kernel, rfl, by decide +kernel, by decide +kernel⟩
theorem fc_law {P : Program} {w : World} {K : PySem.W.Frag} {mg : Str → Option Value} {base : Heap} {f : Addr} {fd : FuncData} (F : FnP K "law" s_law f fd) (m_bool : mg "bool" = none) (m_isinstance : mg "isinstance" = none) (F__law_thing : Cal P w K mg base "_law_thing" 3 ["cell"] (spA K (fun a : Int => [enc a]) (fun a => (p_law_thing a)) (fun a => v_law_thing a))) (F_is_form : Cal P w K mg base "is_form" 2 ["thing"] (spV K mg (fun a : D => [enc a]) (fun a => (p_is_form a)) (fun a => v_is_form a))) (F__law_is_form : Cal P w K mg base "_law_is_form" 2 ["thing"] (spV K mg (fun a : D => [enc a]) (fun a => (p_law_is_form a)) (fun a => v_law_is_form a))) : FnOk P w K mg base (L2.CX P w) 4 f fd ["script"] (spV K mg (fun a : Scr => [enc a]) (fun a => (p_law a)) (fun a => v_law a)) :=
  ((fn_ok (encs := (fun a : Scr => [enc a])) (pre := fun a => p_law a) (o := fun a => (.ret (v_law a) : Out Empty Empty Bool)) F S_law (fun _ => rfl) fun cdv A outer s H E hr a => b_law ⟨⟨rfl, rfl, S_law.nd⟩, rfl⟩ rfl (takes_of rfl rfl rfl rfl) (passes_of rfl) hr m_bool m_isinstance F__law_thing F_is_form F__law_is_form a).imp (spR_imp (fun a h => ⟨h, rfl⟩)))
end k01
end BW

set_option pp.maxSteps 1500
set_option pp.proofs false
set_option Elab.async false
set_option linter.all false
set_option maxRecDepth 100000
set_option maxHeartbeats 4000000
set_option maxHeartbeats 0
namespace BW
namespace k01
open PySem PySem.Spec PyProof.Rows L2
def d_law_stir : He.DefD := ⟨("_law_stir", none), "_law_stir", "_law_stir", defArgs s_law_stir, defBody s_law_stir, defScope s_law_stir, [], []⟩
def d_law_drawn : He.DefD := ⟨("_law_drawn", none), "_law_drawn", "_law_drawn", defArgs s_law_drawn, defBody s_law_drawn, defScope s_law_drawn, [], []⟩
def d_law_part : He.DefD := ⟨("_law_part", none), "_law_part", "_law_part", defArgs s_law_part, defBody s_law_part, defScope s_law_part, [], []⟩
def d_law_thing : He.DefD := ⟨("_law_thing", none), "_law_thing", "_law_thing", defArgs s_law_thing, defBody s_law_thing, defScope s_law_thing, [], []⟩
def d_is_whole : He.DefD := ⟨("is_whole", none), "is_whole", "is_whole", defArgs s_is_whole, defBody s_is_whole, defScope s_is_whole, [], []⟩
def d_is_form : He.DefD := ⟨("is_form", none), "is_form", "is_form", defArgs s_is_form, defBody s_is_form, defScope s_is_form, [], []⟩
def d_law_whole : He.DefD := ⟨("_law_whole", none), "_law_whole", "_law_whole", defArgs s_law_whole, defBody s_law_whole, defScope s_law_whole, [], []⟩
def d_law_is_form : He.DefD := ⟨("_law_is_form", none), "_law_is_form", "_law_is_form", defArgs s_law_is_form, defBody s_law_is_form, defScope s_law_is_form, [], []⟩
def d_law : He.DefD := ⟨("law", none), "law", "law", defArgs s_law, defBody s_law, defScope s_law, [], []⟩
def fn : List He.DefD := [d_law_stir, d_law_drawn, d_law_part, d_law_thing, d_is_whole, d_is_form, d_law_whole, d_law_is_form, d_law]
def fa : List He.Fa := [.glo "_law_stir", .glo "_law_drawn", .glo "_law_part", .glo "_law_thing", .glo "is_whole", .glo "is_form", .glo "_law_whole", .glo "_law_is_form", .glo "law", .free "bool", .free "int", .free "isinstance", .free "len", .free "range", .free "str", .free "tuple", .int "FEWEST_BITS" 2, .int "MOST_BITS" 16, .glo "CHECKS"]
def loose : List Str := [("CHECKS" : Str), ("FEWEST_BITS" : Str), ("MOST_BITS" : Str), ("is_whole" : Str), ("is_form" : Str), ("_law_cell_at" : Str), ("_law_stir" : Str), ("_law_drawn" : Str), ("_law_whole" : Str), ("_law_part" : Str), ("_law_thing" : Str), ("_law_is_form" : Str)]
abbrev RR : PySem.W.OpenRow := PySem.W.OpenLaw.row PySem.Challenge.rw_barewire_k01_what_is_a_form
def exF (K : PySem.W.Frag) : Bool := (He.tupB K ("CHECKS" : Str) [.str (Str.ofString "none"), .str (Str.ofString "even"), .str (Str.ofString "odd")])
abbrev hk : PySem.W.Hook := He.hookX 4 fa fn [] [] exF
def ob (s : PySem.W.SharedT) : He.AlX := He.obsX 4 fa fn [] [] exF (HandSHeadRun.getT s)
theorem ob_eq (s : PySem.W.SharedT) : ob s = hk.obs s.abs := He.obsX_eq (HandSHeadRun.getT_eq s)
theorem run (w : World) : HandSHeadRun.RunEq RR (PySem.W.view RR.prog [14]) hk ob 1000 loose w := by
  intro os
  kernel_rfl
theorem facts {P : Program} {w : World} {K : PySem.W.Frag} {h : Heap} {mg : Str → Option Value} {f : Addr} (X : K.In h) (G : h.Ns mainGlobals mg) (hfa : mg ("law" : Str) = some (.ref f)) (c : He.SaysD fa fn K) (hmore : exF K = true) :
    ∃ fd : FuncData, (∀ (s : Shared) (v : Value), BindsTo s fd ⟨[v], []⟩ [("script", v)]) ∧ ∀ base : Heap, K.In base → base.Ns mainGlobals mg → FnOk P w K mg base CX0 4 f fd ["script"] (spV K mg (fun a : Scr => [enc a]) (fun a => (p_law a)) (fun a => v_law a)) := by
  obtain ⟨fd0, F0⟩ := c.def_ 0 (d := d_law_stir) rfl
  obtain ⟨fd1, F1⟩ := c.def_ 1 (d := d_law_drawn) rfl
  obtain ⟨fd2, F2⟩ := c.def_ 2 (d := d_law_part) rfl
  obtain ⟨fd3, F3⟩ := c.def_ 3 (d := d_law_thing) rfl
  obtain ⟨fd4, F4⟩ := c.def_ 4 (d := d_is_whole) rfl
  obtain ⟨fd5, F5⟩ := c.def_ 5 (d := d_is_form) rfl
  obtain ⟨fd6, F6⟩ := c.def_ 6 (d := d_law_whole) rfl
  obtain ⟨fd7, F7⟩ := c.def_ 7 (d := d_law_is_form) rfl
  obtain ⟨fd8, F8⟩ := c.def_ 8 (d := d_law) rfl
  have g0 := He.glo_ok X G (c.fact 0 (f := .glo "_law_stir") rfl)
  have g1 := He.glo_ok X G (c.fact 1 (f := .glo "_law_drawn") rfl)
  have g2 := He.glo_ok X G (c.fact 2 (f := .glo "_law_part") rfl)
  have g3 := He.glo_ok X G (c.fact 3 (f := .glo "_law_thing") rfl)
  have g4 := He.glo_ok X G (c.fact 4 (f := .glo "is_whole") rfl)
  have g5 := He.glo_ok X G (c.fact 5 (f := .glo "is_form") rfl)
  have g6 := He.glo_ok X G (c.fact 6 (f := .glo "_law_whole") rfl)
  have g7 := He.glo_ok X G (c.fact 7 (f := .glo "_law_is_form") rfl)
  have g8 := He.glo_ok X G (c.fact 8 (f := .glo "law") rfl)
  have m_bool := He.free_ok X G (c.fact 9 (f := .free "bool") rfl)
  have m_int := He.free_ok X G (c.fact 10 (f := .free "int") rfl)
  have m_isinstance := He.free_ok X G (c.fact 11 (f := .free "isinstance") rfl)
  have m_len := He.free_ok X G (c.fact 12 (f := .free "len") rfl)
  have m_range := He.free_ok X G (c.fact 13 (f := .free "range") rfl)
  have m_str := He.free_ok X G (c.fact 14 (f := .free "str") rfl)
  have m_tuple := He.free_ok X G (c.fact 15 (f := .free "tuple") rfl)
  have k_FEWEST_BITS := He.int_ok X G (c.fact 16 (f := .int "FEWEST_BITS" 2) rfl)
  have k_MOST_BITS := He.int_ok X G (c.fact 17 (f := .int "MOST_BITS" 16) rfl)
  have gg_CHECKS := He.glo_ok X G (c.fact 18 (f := .glo "CHECKS") rfl)
  have k_CHECKS : TupG K mg "CHECKS" (T3.mk (Str.ofString "none") (Str.ofString "even") (Str.ofString "odd")) := tupG_of gg_CHECKS hmore
  have e := hfa.symm.trans g8
  cases e
  have b := FunD.bindsA (ps := ["script"]) F8 fun _ _ _ _ _ _ us hl => match us, hl with | [_], _ => rfl
  refine ⟨fd8, fun s v => b s [v] rfl, fun base _ _ => ?_⟩
  have C__law_stir := c_law_stir (P := P) (w := w) (mg := mg) (base := base) F0 g0 
  have C__law_drawn := c_law_drawn (P := P) (w := w) (mg := mg) (base := base) F1 g1 m_len m_range C__law_stir
  have C__law_part := c_law_part (P := P) (w := w) (mg := mg) (base := base) F2 g2 
  have C__law_thing := c_law_thing (P := P) (w := w) (mg := mg) (base := base) F3 g3 C__law_drawn C__law_part
  have C_is_whole := c_is_whole (P := P) (w := w) (mg := mg) (base := base) F4 g4 m_bool m_int m_isinstance
  have C_is_form := c_is_form (P := P) (w := w) (mg := mg) (base := base) F5 g5 m_isinstance m_len m_str m_tuple k_FEWEST_BITS k_MOST_BITS k_CHECKS C_is_whole
  have C__law_whole := c_law_whole (P := P) (w := w) (mg := mg) (base := base) F6 g6 m_bool m_int m_isinstance
  have C__law_is_form := c_law_is_form (P := P) (w := w) (mg := mg) (base := base) F7 g7 m_isinstance m_len m_str m_tuple C__law_whole
  exact fn_cx0 (fc_law (P := P) (w := w) (base := base) F8 m_bool m_isinstance C__law_thing C_is_form C__law_is_form) spV_cx0
end k01
end BW
open PySem PySem.W PySem.Calls PyProof.Rows
theorem PySem.Challenge.cw_barewire_k01_what_is_a_form_holds : PySem.Challenge.rw_barewire_k01_what_is_a_form.Holds := by
  w_on; o_law
  refine HandSHeadRun.head_any (r := OpenLaw.row PySem.Challenge.rw_barewire_k01_what_is_a_form) (q := view (OpenLaw.row PySem.Challenge.rw_barewire_k01_what_is_a_form).prog [14]) (H := BW.k01.hk) (ob := BW.k01.ob) (M := 1000) (loose := BW.k01.loose) (d := HandSHeadRun.topDef (OpenLaw.row PySem.Challenge.rw_barewire_k01_what_is_a_form).prog 14) (kwd := []) BW.k01.ob_eq
    (by kernel_rfl) (fun s => by kernel_rfl) BW.k01.run (by kernel_rfl) (by kernel_rfl) (by kernel_rfl) (by rfl) (by first | assumption | decide +kernel) (by decide +kernel) ⟨rfl, rfl, rfl, rfl, rfl, by decide +kernel⟩ ?hw ?hc
  case hw => w_witness2
  case hc =>
    refine L2.walk_ofE (l := PySem.Challenge.rw_barewire_k01_what_is_a_form) (n := 63) (k := 4) (x := "script") (CX := L2.CX0) rfl (by decide) (by kernel_rfl) ⟨rfl, by decide, by decide⟩ ?F (fun _ _ _ _ z => z)
    intro w mg fa h Y G hmg0
    obtain ⟨K, KX, c⟩ := Y
    have hmg : mg ("law" : PySem.Str) = some (.ref fa) := by
      have e : (HandSHeadRun.topDef (OpenLaw.row PySem.Challenge.rw_barewire_k01_what_is_a_form).prog 14).name = ("law" : PySem.Str) := by kernel_rfl
      rw [← e]
      exact hmg0
    obtain ⟨fd, hb, hF⟩ := BW.k01.facts (P := (PySem.Challenge.rw_barewire_k01_what_is_a_form).prog) (w := w) KX G hmg c.t.d c.more
    exact ⟨K, fd, _, KX, hb, BW.sp_law BW.k01.pure_law, hF⟩
