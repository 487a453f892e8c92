import PyProof.Rows.All
import Wide.All
import OpenK.AllK
import Wide.FinOn
import HandS.ForMost
import HandS.TupAny
import HandS.Wide
import HandS.IsInst
import HandS.Conv
import PyProof.MaxThree
import PyProof.ReprRoads
import PyProof.ListStr
import PyProof.TupleOfStr
import PyProof.Rows.StrRev
import HandS.Star
import HandS.Zip
import HandS.Iter
import HandS.Walk
import HandS.DictComp
import PyProof.AutoSeq1
import HandS.Style
import HandS.HeadHook4
import HandS.Ends
import HandS.Words
import HandS.Codes
import PySem.Challenge.RW_eithermended_k34_whole_rows_of_forty_tex
set_option Elab.async false
set_option linter.all false
set_option maxRecDepth 100000
set_option maxHeartbeats 4000000
/-! EmA: values as trees (D), what is owned (T), how they lie in an abstract heap. -/
namespace Em
open PySem PySem.Spec PyProof.Rows L2

/-- a value as a tree; texts by their code points -/
inductive D where
  | non | bl (b : Bool) | int (i : Int) | str (s : List Nat) | tup (ds : List D) | lst (ds : List D)
  /-- a dict: its keys, what stands at each -/
  | dct (ks : List Key) (ds : List D)
  deriving Inhabited

/-- the heap without some addresses -/
def cutl (l : List Addr) (H : Hp) : Hp := fun b => if b ∈ l then none else H b
theorem cutl_in {l : List Addr} {H : Hp} {b : Addr} (h : b ∈ l) : cutl l H b = none := if_pos h
theorem cutl_out {l : List Addr} {H : Hp} {b : Addr} (h : b ∉ l) : cutl l H b = H b := if_neg h
theorem cutl_some {l : List Addr} {H : Hp} {b : Addr} {o : HO} (h : cutl l H b = some o) : H b = some o ∧ b ∉ l := by
  by_cases hb : b ∈ l
  · rw [cutl_in hb] at h; cases h
  · rw [cutl_out hb] at h; exact ⟨h, hb⟩
/-- all that the one heap tells the other tells too -/
def Sub (H H' : Hp) : Prop := ∀ a o, H a = some o → H' a = some o
theorem Sub.rf (H : Hp) : Sub H H := fun _ _ h => h
theorem Sub.tr {H H1 H2 : Hp} (a : Sub H H1) (b : Sub H1 H2) : Sub H H2 := fun x o h => b x o (a x o h)
theorem Sub.new {H : Hp} {p : Addr} {o : HO} (h : H p = none) : Sub H (upd H p o) := fun a u e => by
  rw [upd_ne (ne_of_none e h)]; exact e
theorem cut_sub {l : List Addr} {H : Hp} : Sub (cutl l H) H := fun _ _ h => (cutl_some h).1
theorem cut_mono {l l' : List Addr} {H H' : Hp} (h : Sub (cutl l H) H') (hl : ∀ b o, H b = some o → b ∉ l → b ∉ l') : Sub (cutl l H) (cutl l' H') := fun b o e => by
  obtain ⟨e1, e2⟩ := cutl_some e
  rw [cutl_out (hl b o e1 e2)]
  exact h b o e
theorem cut_ext {l : List Addr} {H H' : Hp} (h : Sub H H') : Sub (cutl l H) (cutl l H') :=
  cut_mono (Sub.tr cut_sub h) fun _ _ _ n => n

theorem rd_sub {H H' : Hp} {a : Addr} {u : HO} (e : Sub H H') (h : Rd H a u) : Rd H' a u := by
  rcases h with h | ⟨o, h⟩
  · exact .inl (e _ _ h)
  · exact .inr ⟨o, e _ _ h⟩
theorem seqL_sub {K : PySem.W.Frag} {H H' : Hp} {a : Addr} {xs : List V} (e : Sub H H') (h : SqL K H a xs) : SqL K H' a xs := by
  rcases h with (h | ⟨o, h⟩) | h
  · exact .inl (.inl (e _ _ h))
  · exact .inl (.inr ⟨o, e _ _ h⟩)
  · exact .inr h
theorem seqT_sub {K : PySem.W.Frag} {H H' : Hp} {a : Addr} {xs : List V} (e : Sub H H') (h : SqT K H a xs) : SqT K H' a xs := by
  rcases h with (h | ⟨o, h⟩) | h
  · exact .inl (.inl (e _ _ h))
  · exact .inl (.inr ⟨o, e _ _ h⟩)
  · exact .inr h

/-- a text by its code points -/
def sv (s : List Nat) : V := .str ⟨s.toArray⟩

mutual
/-- the value v is the tree d, read in the heap H -/
inductive Is (K : PySem.W.Frag) (H : Hp) : V → D → Prop
  | non : Is K H .non .non
  | bl (b : Bool) : Is K H (.bl b) (.bl b)
  | int (i : Int) : Is K H (.int i) (.int i)
  | str (s : List Nat) : Is K H (sv s) (.str s)
  | tup {a : Addr} {xs : List V} {ds : List D} : SqT K H a xs → Iss K H xs ds → Is K H (.ref a) (.tup ds)
  | lst {a : Addr} {xs : List V} {ds : List D} : Rd H a (.lst xs) → Iss K H xs ds → Is K H (.ref a) (.lst ds)
  | dct {a : Addr} {kvs : List (Key × V)} {ks : List Key} {xs : List V} {ds : List D} : Rd H a (.dK kvs) → kvs.map (·.1) = ks → kvs.map (·.2) = xs → Iss K H xs ds → Is K H (.ref a) (.dct ks ds)
inductive Iss (K : PySem.W.Frag) (H : Hp) : List V → List D → Prop
  | nil : Iss K H [] []
  | cons {v : V} {vs : List V} {d : D} {ds : List D} : Is K H v d → Iss K H vs ds → Iss K H (v :: vs) (d :: ds)
end
mutual
theorem Is.mono {K : PySem.W.Frag} {H H' : Hp} (e : Sub H H') : ∀ {v : V} {d : D}, Is K H v d → Is K H' v d
  | _, _, .non => .non
  | _, _, .bl b => .bl b
  | _, _, .int i => .int i
  | _, _, .str s => .str s
  | _, _, .tup h hs => .tup (seqT_sub e h) (Iss.mono e hs)
  | _, _, .lst h hs => .lst (rd_sub e h) (Iss.mono e hs)
  | _, _, .dct h h1 h2 hs => .dct (rd_sub e h) h1 h2 (Iss.mono e hs)
theorem Iss.mono {K : PySem.W.Frag} {H H' : Hp} (e : Sub H H') : ∀ {vs : List V} {ds : List D}, Iss K H vs ds → Iss K H' vs ds
  | _, _, .nil => .nil
  | _, _, .cons h hs => .cons (Is.mono e h) (Iss.mono e hs)
end
section
variable {K : PySem.W.Frag} {H : Hp}
theorem Iss.len : ∀ {vs : List V} {ds : List D}, Iss K H vs ds → vs.length = ds.length
  | _, _, .nil => rfl
  | _, _, .cons _ hs => congrArg (· + 1) (Iss.len hs)
theorem Iss.get : ∀ {vs : List V} {ds : List D} {i : Nat} {d : D}, Iss K H vs ds → ds[i]? = some d → ∃ v, vs[i]? = some v ∧ Is K H v d
  | _, _, _, _, .nil, e => by simp at e
  | _, _, 0, _, .cons h _, e => by
    have e : _ = _ := Option.some.inj e
    subst e; exact ⟨_, rfl, h⟩
  | _, _, i + 1, _, .cons _ hs, e => by
    obtain ⟨v, h1, h2⟩ := Iss.get (i := i) hs (by simpa using e)
    exact ⟨v, by simpa using h1, h2⟩
theorem Iss.getV : ∀ {vs : List V} {ds : List D} {i : Nat} {v : V}, Iss K H vs ds → vs[i]? = some v → ∃ d, ds[i]? = some d ∧ Is K H v d
  | _, _, _, _, .nil, e => by simp at e
  | _, _, 0, _, .cons h _, e => by
    have e : _ = _ := Option.some.inj e
    subst e; exact ⟨_, rfl, h⟩
  | _, _, i + 1, _, .cons _ hs, e => by
    obtain ⟨v, h1, h2⟩ := Iss.getV (i := i) hs (by simpa using e)
    exact ⟨v, by simpa using h1, h2⟩
theorem Iss.app : ∀ {vs ws : List V} {ds es : List D}, Iss K H vs ds → Iss K H ws es → Iss K H (vs ++ ws) (ds ++ es)
  | _, _, _, _, .nil, h => h
  | _, _, _, _, .cons a b, h => .cons a (Iss.app b h)
theorem Iss.one {v : V} {d : D} (h : Is K H v d) : Iss K H [v] [d] := .cons h .nil
theorem Iss.take : ∀ {vs : List V} {ds : List D} (n : Nat), Iss K H vs ds → Iss K H (vs.take n) (ds.take n)
  | _, _, 0, _ => by rw [List.take_zero, List.take_zero]; exact .nil
  | _, _, _ + 1, .nil => .nil
  | _, _, n + 1, .cons a b => by rw [List.take_succ_cons, List.take_succ_cons]; exact .cons a (Iss.take n b)
theorem Iss.drop : ∀ {vs : List V} {ds : List D} (n : Nat), Iss K H vs ds → Iss K H (vs.drop n) (ds.drop n)
  | _, _, 0, h => h
  | _, _, _ + 1, .nil => .nil
  | _, _, n + 1, .cons _ b => Iss.drop n b
theorem Iss.rev : ∀ {vs : List V} {ds : List D}, Iss K H vs ds → Iss K H vs.reverse ds.reverse
  | _, _, .nil => .nil
  | _, _, .cons a b => by rw [List.reverse_cons, List.reverse_cons]; exact (Iss.rev b).app (.one a)
theorem Iss.set : ∀ {vs : List V} {ds : List D} (i : Nat) {v : V} {d : D}, Iss K H vs ds → Is K H v d → Iss K H (vs.set i v) (ds.set i d)
  | _, _, _, _, _, .nil, _ => .nil
  | _, _, 0, _, _, .cons _ b, h => .cons h b
  | _, _, i + 1, _, _, .cons a b, h => .cons a (Iss.set i b h)
theorem Iss.rep {v : V} {d : D} (h : Is K H v d) : ∀ n : Nat, Iss K H (List.replicate n v) (List.replicate n d)
  | 0 => .nil
  | n + 1 => .cons h (Iss.rep h n)
theorem Iss.int_map : ∀ ns : List Int, Iss K H (ns.map V.int) (ns.map D.int)
  | [] => .nil
  | n :: ns => .cons (.int n) (Iss.int_map ns)
end

/-- what a name holds: a tree that is shared, or a list of its own that may be changed -/
inductive T where
  | im (d : D) | ls (ts : List T)
  deriving Inhabited
mutual
def T.view : T → D
  | .im d => d
  | .ls ts => .lst (T.views ts)
def T.views : List T → List D
  | [] => []
  | t :: ts => t.view :: T.views ts
end
theorem views_eq : ∀ ts : List T, T.views ts = ts.map T.view
  | [] => rfl
  | t :: ts => congrArg (t.view :: ·) (views_eq ts)

mutual
/-- the value v is the tree t: what is shared is read in C, what is owned in H, at the addresses fp -/
inductive Rp (K : PySem.W.Frag) (C H : Hp) : V → T → List Addr → Prop
  | im {v : V} {d : D} : Is K C v d → Rp K C H v (.im d) []
  | ls {a : Addr} {xs : List V} {ts : List T} {fp : List Addr} : H a = some (.lst xs) → Rps K C H xs ts fp → Rp K C H (.ref a) (.ls ts) (a :: fp)
inductive Rps (K : PySem.W.Frag) (C H : Hp) : List V → List T → List Addr → Prop
  | nil : Rps K C H [] [] []
  | cons {v : V} {vs : List V} {t : T} {ts : List T} {f g : List Addr} : Rp K C H v t f → Rps K C H vs ts g → Rps K C H (v :: vs) (t :: ts) (f ++ g)
end
mutual
/-- what is owned stands, what is shared may grow -/
theorem Rp.mono {K : PySem.W.Frag} {C C' H H' : Hp} (e : Sub C C') : ∀ {v : V} {t : T} {fp : List Addr}, Rp K C H v t fp → (∀ a ∈ fp, ∀ o, H a = some o → H' a = some o) → Rp K C' H' v t fp
  | _, _, _, .im h, _ => .im (h.mono e)
  | _, _, _, .ls h hs, k => .ls (k _ List.mem_cons_self _ h) (Rps.mono e hs fun a ha => k a (List.mem_cons_of_mem _ ha))
theorem Rps.mono {K : PySem.W.Frag} {C C' H H' : Hp} (e : Sub C C') : ∀ {vs : List V} {ts : List T} {fp : List Addr}, Rps K C H vs ts fp → (∀ a ∈ fp, ∀ o, H a = some o → H' a = some o) → Rps K C' H' vs ts fp
  | _, _, _, .nil, _ => .nil
  | _, _, _, .cons h hs, k => .cons (Rp.mono e h fun a ha => k a (List.mem_append_left _ ha)) (Rps.mono e hs fun a ha => k a (List.mem_append_right _ ha))
end
mutual
/-- what is owned may be read as a tree -/
theorem Rp.view {K : PySem.W.Frag} {C H : Hp} (e : Sub C H) : ∀ {v : V} {t : T} {fp : List Addr}, Rp K C H v t fp → Is K H v t.view
  | _, _, _, .im h => h.mono e
  | _, _, _, .ls h hs => .lst (.inl h) (Rps.view e hs)
theorem Rps.view {K : PySem.W.Frag} {C H : Hp} (e : Sub C H) : ∀ {vs : List V} {ts : List T} {fp : List Addr}, Rps K C H vs ts fp → Iss K H vs (T.views ts)
  | _, _, _, .nil => .nil
  | _, _, _, .cons h hs => .cons (Rp.view e h) (Rps.view e hs)
end
section
variable {K : PySem.W.Frag} {C H : Hp}
mutual
theorem Rp.dom : ∀ {v : V} {t : T} {fp : List Addr}, Rp K C H v t fp → ∀ a ∈ fp, ∃ xs, H a = some (.lst xs)
  | _, _, _, .im _, a, h => absurd h (List.not_mem_nil)
  | _, _, _, .ls h hs, a, m => by
    rcases List.mem_cons.mp m with e | m
    · rw [e]; exact ⟨_, h⟩
    · exact Rps.dom hs a m
theorem Rps.dom : ∀ {vs : List V} {ts : List T} {fp : List Addr}, Rps K C H vs ts fp → ∀ a ∈ fp, ∃ xs, H a = some (.lst xs)
  | _, _, _, .nil, a, h => absurd h (List.not_mem_nil)
  | _, _, _, .cons h hs, a, m => by
    rcases List.mem_append.mp m with m | m
    · exact Rp.dom h a m
    · exact Rps.dom hs a m
end
theorem Rps.len : ∀ {vs : List V} {ts : List T} {fp : List Addr}, Rps K C H vs ts fp → vs.length = ts.length
  | _, _, _, .nil => rfl
  | _, _, _, .cons _ hs => congrArg (· + 1) (Rps.len hs)
theorem Rps.app : ∀ {vs ws : List V} {ts us : List T} {f g : List Addr}, Rps K C H vs ts f → Rps K C H ws us g → Rps K C H (vs ++ ws) (ts ++ us) (f ++ g)
  | _, _, _, _, _, _, .nil, h => h
  | _, _, _, _, _, _, .cons a b, h => by
    rw [List.append_assoc]
    exact .cons a (Rps.app b h)
theorem Rps.one {v : V} {t : T} {f : List Addr} (h : Rp K C H v t f) : Rps K C H [v] [t] f := by
  have q := Rps.cons h .nil
  rw [List.append_nil] at q
  exact q
theorem Rps.ims : ∀ {vs : List V} {ds : List D}, Iss K C vs ds → Rps K C H vs (ds.map T.im) []
  | _, _, .nil => .nil
  | _, _, .cons h hs => Rps.cons (.im h) (Rps.ims hs)
/-- the part of a row at a place, and the row with another part there -/
theorem Rps.focus : ∀ {vs : List V} {ts : List T} {fp : List Addr} {i : Nat} {t : T}, Rps K C H vs ts fp → ts[i]? = some t →
    ∃ v pre f post, vs[i]? = some v ∧ Rp K C H v t f ∧ fp = pre ++ f ++ post ∧
      ∀ (C' H' : Hp) (v' : V) (t' : T) (f' : List Addr), Sub C C' → (∀ a, a ∈ pre ∨ a ∈ post → ∀ o, H a = some o → H' a = some o) → Rp K C' H' v' t' f' →
        Rps K C' H' (vs.set i v') (ts.set i t') (pre ++ f' ++ post)
  | _, _, _, _, _, .nil, e => by simp at e
  | _, _, _, 0, _, .cons (f := f) (g := g) h hs, e => by
    have e : _ = _ := Option.some.inj e
    subst e
    refine ⟨_, [], f, g, rfl, h, by simp, fun C' H' v' t' f' hC k r => ?_⟩
    exact Rps.cons r (Rps.mono hC hs fun a ha => k a (.inr ha))
  | _, _, _, i + 1, _, .cons (f := f) h hs, e => by
    obtain ⟨v, pre, f2, post, h1, h2, h3, h4⟩ := Rps.focus (i := i) hs (by simpa using e)
    refine ⟨v, f ++ pre, f2, post, by simpa using h1, h2, by rw [h3]; simp, fun C' H' v' t' f' hC k r => ?_⟩
    have q := Rps.cons (Rp.mono hC h fun a ha => k a (.inl (List.mem_append_left _ ha))) (h4 C' H' v' t' f' hC (fun a ha => k a (ha.imp (fun z => List.mem_append_right _ z) id)) r)
    simpa using q
end
end Em

set_option Elab.async false
set_option linter.all false
set_option maxRecDepth 100000
set_option maxHeartbeats 4000000
/-! EmB: the names of a def: what each holds, owned lists apart; what reading, storing, changing does to them. -/
namespace Em
open PySem PySem.Spec PyProof.Rows L2

abbrev Rho := List (Option T)
abbrev Sg := List (Option V)

inductive Sls (K : PySem.W.Frag) (C H : Hp) : Sg → Rho → List Addr → Prop
  | nil : Sls K C H [] [] []
  | no {x : Option V} {σ : Sg} {ρ : Rho} {f : List Addr} : Sls K C H σ ρ f → Sls K C H (x :: σ) (none :: ρ) f
  | yes {v : V} {t : T} {σ : Sg} {ρ : Rho} {f g : List Addr} : Rp K C H v t f → Sls K C H σ ρ g → Sls K C H (some v :: σ) (some t :: ρ) (f ++ g)
section
variable {K : PySem.W.Frag} {C C' H H' : Hp}
theorem Sls.mono (e : Sub C C') : ∀ {σ : Sg} {ρ : Rho} {f : List Addr}, Sls K C H σ ρ f → (∀ a ∈ f, ∀ o, H a = some o → H' a = some o) → Sls K C' H' σ ρ f
  | _, _, _, .nil, _ => .nil
  | _, _, _, .no h, k => .no (Sls.mono e h k)
  | _, _, _, .yes r h, k => .yes (r.mono e fun a ha => k a (List.mem_append_left _ ha)) (Sls.mono e h fun a ha => k a (List.mem_append_right _ ha))
theorem Sls.len : ∀ {σ : Sg} {ρ : Rho} {f : List Addr}, Sls K C H σ ρ f → σ.length = ρ.length
  | _, _, _, .nil => rfl
  | _, _, _, .no h => congrArg (· + 1) h.len
  | _, _, _, .yes _ h => congrArg (· + 1) h.len
theorem Sls.dom : ∀ {σ : Sg} {ρ : Rho} {f : List Addr}, Sls K C H σ ρ f → ∀ a ∈ f, ∃ xs, H a = some (.lst xs)
  | _, _, _, .nil, a, m => absurd m List.not_mem_nil
  | _, _, _, .no h, a, m => h.dom a m
  | _, _, _, .yes r h, a, m => by
    rcases List.mem_append.mp m with m | m
    · exact r.dom a m
    · exact h.dom a m
/-- the slot at a place; and the slots with another one there -/
theorem Sls.focus : ∀ {σ : Sg} {ρ : Rho} {fp : List Addr} {i : Nat}, Sls K C H σ ρ fp → i < ρ.length →
    ∃ pre f post, fp = pre ++ f ++ post ∧ (ρ[i]? = some none ∧ f = [] ∨ ∃ v t, ρ[i]? = some (some t) ∧ σ[i]? = some (some v) ∧ Rp K C H v t f) ∧
      (∀ (C' H' : Hp) (v' : V) (t' : T) (f' : List Addr), Sub C C' → (∀ a, a ∈ pre ∨ a ∈ post → ∀ o, H a = some o → H' a = some o) → Rp K C' H' v' t' f' →
        Sls K C' H' (σ.set i (some v')) (ρ.set i (some t')) (pre ++ f' ++ post)) ∧
      (∀ (C' H' : Hp) (x : Option V), Sub C C' → (∀ a, a ∈ pre ∨ a ∈ post → ∀ o, H a = some o → H' a = some o) → Sls K C' H' (σ.set i x) (ρ.set i none) (pre ++ post))
  | _, _, _, i, .nil, h => absurd h (Nat.not_lt_zero _)
  | _, _, _, 0, .no (f := f) h, _ => ⟨[], [], f, rfl, .inl ⟨rfl, rfl⟩, fun C' H' v' t' f' hC k r => .yes r (h.mono hC fun a ha => k a (.inr ha)),
      fun C' H' x hC k => .no (h.mono hC fun a ha => k a (.inr ha))⟩
  | _, _, _, 0, .yes (f := f) (g := g) r h, _ => ⟨[], f, g, by simp, .inr ⟨_, _, rfl, rfl, r⟩, fun C' H' v' t' f' hC k r' => .yes r' (h.mono hC fun a ha => k a (.inr ha)),
      fun C' H' x hC k => .no (h.mono hC fun a ha => k a (.inr ha))⟩
  | _, _, _, i + 1, .no h, hi => by
    obtain ⟨pre, f, post, e, d, k1, k2⟩ := h.focus (i := i) (Nat.lt_of_succ_lt_succ hi)
    exact ⟨pre, f, post, e, by simpa using d, fun C' H' v' t' f' hC k r => .no (k1 C' H' v' t' f' hC k r), fun C' H' x hC k => .no (k2 C' H' x hC k)⟩
  | _, _, _, i + 1, .yes (f := g) r h, hi => by
    obtain ⟨pre, f, post, e, d, k1, k2⟩ := h.focus (i := i) (Nat.lt_of_succ_lt_succ hi)
    refine ⟨g ++ pre, f, post, by rw [e]; simp, by simpa using d, fun C' H' v' t' f' hC k r' => ?_, fun C' H' x hC k => ?_⟩
    · have q := Sls.yes (r.mono hC fun a ha => k a (.inl (List.mem_append_left _ ha))) (k1 C' H' v' t' f' hC (fun a ha => k a (ha.imp (List.mem_append_right _) id)) r')
      simpa using q
    · have q := Sls.yes (r.mono hC fun a ha => k a (.inl (List.mem_append_left _ ha))) (k2 C' H' x hC (fun a ha => k a (ha.imp (List.mem_append_right _) id)))
      simpa using q
theorem Sls.get {σ : Sg} {ρ : Rho} {fp : List Addr} {i : Nat} {t : T} (h : Sls K C H σ ρ fp) (e : ρ[i]? = some (some t)) : ∃ v f, σ[i]? = some (some v) ∧ Rp K C H v t f ∧ ∀ a ∈ f, a ∈ fp := by
  have hi : i < ρ.length := (List.getElem?_eq_some_iff.mp e).1
  obtain ⟨pre, f, post, e1, d, _, _⟩ := h.focus hi
  rcases d with ⟨z, _⟩ | ⟨v, u, z, hv, r⟩
  · rw [e] at z; cases z
  · rw [e] at z
    cases z
    exact ⟨v, f, hv, r, fun a ha => by rw [e1]; simp [ha]⟩
end

theorem set_same {α : Type} : ∀ {l : List α} {i : Nat} {a : α}, l[i]? = some a → l.set i a = l
  | [], _, _, h => by simp at h
  | x :: l, 0, a, h => by
    have h : x = a := Option.some.inj h
    rw [h]; rfl
  | x :: l, i + 1, a, h => by
    have q := set_same (l := l) (i := i) (a := a) (by simpa using h)
    show x :: l.set i a = x :: l
    rw [q]

/-- the state of a def's body: M is what others own, F what stood at the entry (but what is lent to this def), own what this def's names own -/
structure Sl (K : PySem.W.Frag) (M : List Addr) (F : Hp) (own : List Addr) (H : Hp) (σ : Sg) (ρ : Rho) : Prop where
  rel : Sls K (cutl (own ++ M) H) H σ ρ own
  nod : own.Nodup
  frame : Sub F H
  ownF : ∀ a ∈ own, F a = none
  inF : ∀ a ∈ M, ∃ o, F a = some o

section
variable {K : PySem.W.Frag} {M own : List Addr} {F H H' : Hp} {σ : Sg} {ρ : Rho}
theorem Sl.notM (S : Sl K M F own H σ ρ) {a : Addr} (h : a ∈ own) : a ∉ M := fun m => by
  obtain ⟨o, e⟩ := S.inF a m
  rw [S.ownF a h] at e; cases e
theorem Sl.new_out (S : Sl K M F own H σ ρ) {p : Addr} (h : H p = none) : p ∉ own ++ M := fun m => by
  rcases List.mem_append.mp m with m | m
  · obtain ⟨xs, e⟩ := S.rel.dom p m
    rw [h] at e; cases e
  · obtain ⟨o, e⟩ := S.inF p m
    rw [S.frame p o e] at h; cases h
theorem Sl.newF (S : Sl K M F own H σ ρ) {p : Addr} (h : H p = none) : F p = none := by
  cases e : F p with
  | none => rfl
  | some o => rw [S.frame p o e] at h; cases h
/-- the heap grows -/
theorem Sl.grow (S : Sl K M F own H σ ρ) (e : Sub H H') : Sl K M F own H' σ ρ where
  rel := S.rel.mono (cut_ext e) fun a _ o h => e a o h
  nod := S.nod
  frame := S.frame.tr e
  ownF := S.ownF
  inF := S.inF
/-- how the clean part grows when own parts are given up, or new objects are owned -/
theorem clean_sub {own' : List Addr} (e : ∀ b o, H b = some o → b ∉ own ++ M → H' b = some o) (h : ∀ b ∈ own', b ∈ own ∨ H b = none) : Sub (cutl (own ++ M) H) (cutl (own' ++ M) H') := fun b o z => by
  obtain ⟨z1, z2⟩ := cutl_some z
  rw [cutl_out ?_]
  · exact e b o z1 z2
  · intro m
    rcases List.mem_append.mp m with m | m
    · rcases h b m with q | q
      · exact z2 (List.mem_append_left _ q)
      · rw [q] at z1; cases z1
    · exact z2 (List.mem_append_right _ m)
theorem nodup_mid {α : Type} {a b c b' : List α} (h : (a ++ b ++ c).Nodup) (hb : b'.Nodup) (hs : ∀ x ∈ b', x ∈ b ∨ (x ∉ a ∧ x ∉ c)) : (a ++ b' ++ c).Nodup := by
  rw [List.nodup_append] at h ⊢
  obtain ⟨h1, h2, h3⟩ := h
  rw [List.nodup_append] at h1 ⊢
  obtain ⟨h4, h5, h6⟩ := h1
  refine ⟨⟨h4, hb, fun x hx y hy e => ?_⟩, h2, fun x hx y hy e => ?_⟩
  · subst e
    rcases hs x hy with q | ⟨q, _⟩
    · exact h6 x hx x q rfl
    · exact q hx
  · subst e
    rcases List.mem_append.mp hx with m | m
    · exact h3 x (List.mem_append_left _ m) x hy rfl
    · rcases hs x m with q | ⟨_, q⟩
      · exact h3 x (List.mem_append_right _ q) x hy rfl
      · exact q hy

/-- a slot is given a value: what is new in its tree is owned from now on -/
theorem Sl.put {i : Nat} {v : V} {t : T} {f : List Addr} (S : Sl K M F own H σ ρ) (hi : i < ρ.length) (e : ∀ b o, H b = some o → H' b = some o)
    (r : ∀ C', Sub (cutl (f ++ own ++ M) H') C' → Rp K C' H' v t f) (hf : f.Nodup) (hn : ∀ a ∈ f, H a = none ∧ (∃ o, H' a = some o)) :
    ∃ own', Sl K M F own' H' (σ.set i (some v)) (ρ.set i (some t)) ∧ (∀ a ∈ own', a ∈ own ∨ a ∈ f) := by
  obtain ⟨pre, g, post, ee, d, k1, _⟩ := S.rel.focus hi
  have hno : ∀ a ∈ f, a ∉ own := fun a ha m => by
    obtain ⟨xs, q⟩ := S.rel.dom a m
    rw [(hn a ha).1] at q; cases q
  have sub1 : ∀ b ∈ pre ++ f ++ post, b ∈ own ∨ b ∈ f := fun b m => by
    simp only [List.mem_append] at m
    rcases m with (m | m) | m
    · exact .inl (by rw [ee]; simp [m])
    · exact .inr m
    · exact .inl (by rw [ee]; simp [m])
  refine ⟨pre ++ f ++ post, ⟨k1 (cutl (pre ++ f ++ post ++ M) H') H' v t f ?_ (fun a _ o q => e a o q) (r _ ?_), ?_, S.frame.tr e, fun a m => ?_, S.inF⟩, sub1⟩
  · exact clean_sub (fun b o z _ => e b o z) fun b m => (sub1 b m).imp id fun q => (hn b q).1
  · intro b o z
    obtain ⟨z1, z2⟩ := cutl_some z
    rw [cutl_out ?_]
    · exact z1
    · intro m
      apply z2
      rcases List.mem_append.mp m with m | m
      · rcases sub1 b m with q | q
        · simp [q]
        · simp [q]
      · simp [m]
  · refine nodup_mid (b := g) (by rw [← ee]; exact S.nod) hf fun x hx => .inr ⟨fun m => hno x hx (by rw [ee]; simp [m]), fun m => hno x hx (by rw [ee]; simp [m])⟩
  · rcases sub1 a m with q | q
    · exact S.ownF a q
    · exact S.newF (hn a q).1
/-- .. a shared value -/
theorem Sl.putIm {i : Nat} {v : V} {d : D} (S : Sl K M F own H σ ρ) (hi : i < ρ.length) (r : Is K (cutl (own ++ M) H) v d) :
    ∃ own', Sl K M F own' H (σ.set i (some v)) (ρ.set i (some (.im d))) ∧ ∀ a ∈ own', a ∈ own := by
  obtain ⟨own', S', h⟩ := S.put (H' := H) (f := []) (v := v) (t := .im d) hi (fun _ _ q => q) (fun C' hC => .im (r.mono hC)) List.nodup_nil (fun a m => absurd m List.not_mem_nil)
  exact ⟨own', S', fun a m => (h a m).resolve_right List.not_mem_nil⟩
/-- a slot is forgotten -/
theorem Sl.drop {i : Nat} {x : Option V} (S : Sl K M F own H σ ρ) (hi : i < ρ.length) : ∃ own', Sl K M F own' H (σ.set i x) (ρ.set i none) ∧ ∀ a ∈ own', a ∈ own := by
  obtain ⟨pre, g, post, ee, d, _, k2⟩ := S.rel.focus hi
  have sub1 : ∀ b ∈ pre ++ post, b ∈ own := fun b m => by
    rcases List.mem_append.mp m with m | m
    · rw [ee]; simp [m]
    · rw [ee]; simp [m]
  refine ⟨pre ++ post, ⟨k2 _ H x ?_ (fun _ _ _ q => q), ?_, S.frame, fun a m => S.ownF a (sub1 a m), S.inF⟩, sub1⟩
  · exact clean_sub (fun b o z _ => z) fun b m => .inl (sub1 b m)
  · have q := nodup_mid (b' := []) (by rw [← ee]; exact S.nod) List.nodup_nil (fun x hx => absurd hx List.not_mem_nil)
    simpa using q
/-- a slot's tree is shared from now on -/
theorem Sl.freeze {i : Nat} {t : T} (S : Sl K M F own H σ ρ) (e : ρ[i]? = some (some t)) :
    ∃ own' v, σ[i]? = some (some v) ∧ Sl K M F own' H σ (ρ.set i (some (.im t.view))) ∧ (∀ a ∈ own', a ∈ own) ∧ Is K (cutl (own' ++ M) H) v t.view := by
  have hi : i < ρ.length := (List.getElem?_eq_some_iff.mp e).1
  obtain ⟨pre, g, post, ee, d, k1, _⟩ := S.rel.focus hi
  rcases d with ⟨z, _⟩ | ⟨v, u, z, hv, r⟩
  · rw [e] at z; cases z
  · rw [e] at z
    cases z
    have nd := S.nod
    rw [ee] at nd
    have sub1 : ∀ b ∈ pre ++ [] ++ post, b ∈ own := fun b m => by
      simp only [List.append_nil] at m
      rcases List.mem_append.mp m with m | m
      · rw [ee]; simp [m]
      · rw [ee]; simp [m]
    have hC : Sub (cutl (own ++ M) H) (cutl (pre ++ [] ++ post ++ M) H) := clean_sub (fun b o z _ => z) fun b m => .inl (sub1 b m)
    -- the tree, read where its own lists are shared
    have hI : Is K (cutl (pre ++ [] ++ post ++ M) H) v t.view := by
      have r2 : Rp K (cutl (pre ++ [] ++ post ++ M) H) (cutl (pre ++ [] ++ post ++ M) H) v t g := r.mono hC fun a ha o q => by
        rw [cutl_out ?_]
        · exact q
        · intro m
          rcases List.mem_append.mp m with m | m
          · simp only [List.append_nil] at m
            rw [List.nodup_append] at nd
            obtain ⟨n1, _, n3⟩ := nd
            rw [List.nodup_append] at n1
            rcases List.mem_append.mp m with m | m
            · exact n1.2.2 a m a ha rfl
            · exact n3 a (List.mem_append_right _ ha) a m rfl
          · exact S.notM (a := a) (by rw [ee]; simp [ha]) m
      exact r2.view (Sub.rf _)
    have hs : σ.set i (some v) = σ := set_same hv
    refine ⟨pre ++ [] ++ post, v, hv, ⟨?_, ?_, S.frame, fun a m => S.ownF a (sub1 a m), S.inF⟩, sub1, hI⟩
    · have q := k1 _ H v (.im t.view) [] hC (fun _ _ _ q => q) (.im hI)
      rw [hs] at q
      exact q
    · exact nodup_mid (by rw [← ee]; exact S.nod) List.nodup_nil (fun x hx => absurd hx List.not_mem_nil)
end

/-- a tree at a path of places; and with another tree there -/
def T.at : T → List Nat → Option T
  | t, [] => some t
  | .im _, _ :: _ => none
  | .ls ts, i :: p => match ts[i]? with
    | some t => t.at p
    | none => none
def T.setAt : T → List Nat → T → T
  | _, [], u => u
  | .im d, _ :: _, _ => .im d
  | .ls ts, i :: p, u => match ts[i]? with
    | some t => .ls (ts.set i (t.setAt p u))
    | none => .ls ts
/-- the value at a path of places -/
def vAt (H : Hp) : V → List Nat → Option V
  | v, [] => some v
  | .ref a, j :: p => match H a with
    | some (.lst xs) => match xs[j]? with
      | some w => vAt H w p
      | none => none
    | _ => none
  | _, _ :: _ => none
section
variable {K : PySem.W.Frag} {C H : Hp}
/-- the list at a path: where it lies, and the tree with another list there -/
theorem Rp.focus : ∀ {p : List Nat} {t : T} {v : V} {fp : List Addr} {ts : List T}, Rp K C H v t fp → t.at p = some (.ls ts) →
    ∃ a xs pre f post, vAt H v p = some (.ref a) ∧ H a = some (.lst xs) ∧ Rps K C H xs ts f ∧ fp = pre ++ (a :: f) ++ post ∧
      ∀ (C' H' : Hp) (xs' : List V) (ts' : List T) (f' : List Addr), Sub C C' → (∀ b, b ∈ pre ∨ b ∈ post → ∀ o, H b = some o → H' b = some o) → H' a = some (.lst xs') → Rps K C' H' xs' ts' f' →
        Rp K C' H' v (t.setAt p (.ls ts')) (pre ++ (a :: f') ++ post)
  | [], t, v, fp, ts, r, e => by
    have e : t = .ls ts := Option.some.inj e
    subst e
    cases r with
    | ls h hs => exact ⟨_, _, [], _, [], rfl, h, hs, by simp, fun C' H' xs' ts' f' hC k ha hr => by simpa [T.setAt] using Rp.ls ha hr⟩
  | i :: p, .im d, v, fp, ts, r, e => by cases e
  | i :: p, .ls us, v, fp, ts, r, e => by
    cases r with
    | ls h hs =>
      rename_i a xs fp0
      unfold T.at at e
      cases eu : us[i]? with
      | none => rw [eu] at e; cases e
      | some u =>
        rw [eu] at e
        have e : u.at p = some (.ls ts) := e
        obtain ⟨w, pre, f, post, h1, h2, h3, h4⟩ := hs.focus eu
        obtain ⟨b, ys, pre2, f2, post2, q0, q1, q2, q3, q4⟩ := Rp.focus h2 e
        refine ⟨b, ys, (a :: pre) ++ pre2, f2, post2 ++ post, by unfold vAt; rw [h]; simp only [h1]; exact q0, q1, q2, by rw [h3, q3]; simp, fun C' H' xs' ts' f' hC k hb hr => ?_⟩
        have r2 := q4 C' H' xs' ts' f' hC (fun c hc => k c (by rcases hc with z | z <;> simp [z])) hb hr
        have hx : xs.set i w = xs := set_same h1
        have r3 := h4 C' H' w (u.setAt p (.ls ts')) (pre2 ++ b :: f' ++ post2) hC (fun c hc => k c (by rcases hc with z | z <;> simp [z])) r2
        rw [hx] at r3
        have ha : H' a = some (.lst xs) := k a (by simp) _ h
        have q := Rp.ls ha r3
        unfold T.setAt
        rw [eu]
        simpa using q
end
section
variable {K : PySem.W.Frag} {M own : List Addr} {F H : Hp} {σ : Sg} {ρ : Rho}
/-- the list at a path of a slot: where it lies; and what becomes of the slots when it is changed (what is new in it is owned from now on) -/
theorem Sl.list {i : Nat} {p : List Nat} {t : T} {ts : List T} (S : Sl K M F own H σ ρ) (e : ρ[i]? = some (some t)) (hp : t.at p = some (.ls ts)) :
    ∃ a xs f, (∃ v, σ[i]? = some (some v) ∧ vAt H v p = some (.ref a)) ∧ H a = some (.lst xs) ∧ a ∈ own ∧ Rps K (cutl (own ++ M) H) H xs ts f ∧ (∀ b ∈ f, b ∈ own) ∧ a ∉ f ∧ f.Nodup ∧
      ∀ (H' : Hp) (xs' : List V) (ts' : List T) (f' : List Addr), (∀ b o, b ≠ a → H b = some o → H' b = some o) → H' a = some (.lst xs') → (∀ C', Sub (cutl (own ++ f' ++ M) H') C' → Rps K C' H' xs' ts' f') →
        f'.Nodup → (∀ b ∈ f', (b ∈ f ∨ H b = none)) →
        ∃ own', Sl K M F own' H' σ (ρ.set i (some (t.setAt p (.ls ts')))) ∧ (∀ b ∈ own', b ∈ own ∨ b ∈ f') ∧ Sub (cutl (own ++ M) H) (cutl (own' ++ M) H') := by
  have hi : i < ρ.length := (List.getElem?_eq_some_iff.mp e).1
  obtain ⟨pre, g, post, ee, d, k1, _⟩ := S.rel.focus hi
  rcases d with ⟨z, _⟩ | ⟨v, u, z, hv, r⟩
  · rw [e] at z; cases z
  · rw [e] at z
    cases z
    obtain ⟨a, xs, pre2, f, post2, q0, q1, q2, q3, q4⟩ := r.focus hp
    have eo : own = (pre ++ pre2) ++ (a :: f) ++ (post2 ++ post) := by rw [ee, q3]; simp
    have nd := S.nod
    rw [eo] at nd
    have ndaf : (a :: f).Nodup := by
      rw [List.nodup_append] at nd
      have n1 := nd.1
      rw [List.nodup_append] at n1
      exact n1.2.1
    obtain ⟨naf, ndf⟩ := List.nodup_cons.mp ndaf
    have aout : a ∉ pre ++ pre2 ∧ a ∉ post2 ++ post := by
      rw [List.nodup_append] at nd
      obtain ⟨n1, _, n3⟩ := nd
      rw [List.nodup_append] at n1
      exact ⟨fun m => n1.2.2 a m a List.mem_cons_self rfl, fun m => n3 a (List.mem_append_right _ List.mem_cons_self) a m rfl⟩
    refine ⟨a, xs, f, ⟨v, hv, q0⟩, q1, by rw [eo]; simp, q2, fun b hb => by rw [eo]; simp [hb], naf, ndf, fun H' xs' ts' f' k ha hr ndf' hf' => ?_⟩
    have fno : ∀ b ∈ f', b ∈ f ∨ (b ∉ own ∧ H b = none) := fun b hb => by
      rcases hf' b hb with z | z
      · exact .inl z
      · refine .inr ⟨fun m => ?_, z⟩
        obtain ⟨ys, y⟩ := S.rel.dom b m
        rw [z] at y; cases y
    have anf : a ∉ f' := fun m => by
      rcases fno a m with z | ⟨z, _⟩
      · exact naf z
      · exact z (by rw [eo]; simp)
    have sub1 : ∀ b ∈ pre ++ (pre2 ++ (a :: f') ++ post2) ++ post, b ∈ own ∨ (b ∈ f' ∧ H b = none) := fun b m => by
      simp only [List.mem_append, List.mem_cons] at m
      rcases m with (m | ((m | (m | m)) | m)) | m
      · exact .inl (by rw [eo]; simp [m])
      · exact .inl (by rw [eo]; simp [m])
      · exact .inl (by rw [eo]; simp [m])
      · rcases fno b m with z | ⟨_, z⟩
        · exact .inl (by rw [eo]; simp [z])
        · exact .inr ⟨m, z⟩
      · exact .inl (by rw [eo]; simp [m])
      · exact .inl (by rw [eo]; simp [m])
    have hC : Sub (cutl (own ++ M) H) (cutl (pre ++ (pre2 ++ (a :: f') ++ post2) ++ post ++ M) H') :=
      clean_sub (fun b o z n => k b o (fun q => n (by rw [q, eo]; simp)) z) fun b m => (sub1 b m).imp id And.right
    have keep : ∀ b, (b ∈ pre ∨ b ∈ post) ∨ (b ∈ pre2 ∨ b ∈ post2) → ∀ o, H b = some o → H' b = some o := fun b hb o z => by
      refine k b o (fun q => ?_) z
      subst q
      rcases hb with (y | y) | (y | y)
      · exact aout.1 (by simp [y])
      · exact aout.2 (by simp [y])
      · exact aout.1 (by simp [y])
      · exact aout.2 (by simp [y])
    have r2 : Rp K (cutl (pre ++ (pre2 ++ (a :: f') ++ post2) ++ post ++ M) H') H' v (t.setAt p (.ls ts')) (pre2 ++ (a :: f') ++ post2) := by
      refine q4 _ H' xs' ts' f' hC (fun b hb => keep b (.inr hb)) ha (hr _ fun b o z => ?_)
      obtain ⟨z1, z2⟩ := cutl_some z
      rw [cutl_out ?_]
      · exact z1
      · intro m
        apply z2
        rcases List.mem_append.mp m with m | m
        · rcases sub1 b m with q | ⟨q, _⟩
          · simp [q]
          · simp [q]
        · simp [m]
    have hs : σ.set i (some v) = σ := set_same hv
    have r3 := k1 _ H' v (t.setAt p (.ls ts')) _ hC (fun b hb => keep b (.inl hb)) r2
    rw [hs] at r3
    refine ⟨_, ⟨r3, ?_, fun b o z => ?_, fun b m => ?_, S.inF⟩, fun b m => (sub1 b m).imp id And.left, hC⟩
    · have e3 : pre ++ (pre2 ++ (a :: f') ++ post2) ++ post = (pre ++ pre2) ++ (a :: f') ++ (post2 ++ post) := by simp
      rw [e3]
      refine nodup_mid nd (List.nodup_cons.mpr ⟨anf, ndf'⟩) fun x hx => ?_
      rcases List.mem_cons.mp hx with z | z
      · exact .inl (by rw [z]; simp)
      · rcases fno x z with y | ⟨y, _⟩
        · exact .inl (List.mem_cons_of_mem _ y)
        · exact .inr ⟨fun m => y (by rw [eo]; rcases List.mem_append.mp m with m | m <;> simp [m]), fun m => y (by rw [eo]; rcases List.mem_append.mp m with m | m <;> simp [m])⟩
    · refine k b o (fun q => ?_) (S.frame b o z)
      have y : F a = none := S.ownF a (by rw [eo]; simp)
      rw [q, y] at z; cases z
    · rcases sub1 b m with z | ⟨_, z⟩
      · exact S.ownF b z
      · exact S.newF z
end
end Em

set_option Elab.async false
set_option linter.all false
set_option maxRecDepth 100000
set_option maxHeartbeats 4000000
/-! EmC: a small language of our own, and what it computes over trees. -/
namespace Em
open PySem PySem.Spec PyProof.Rows L2

inductive Ty where | int | bool | str | tuple | list | non | dict
  deriving DecidableEq
inductive Op where
  | add | sub | mul | fdiv | mod | pow | neg
  | eq | ne | lt | le | gt | ge | isN | notN | in_ | nin
  | len | int | abs | min2 | min3 | max2 | sum | all | any | tuple | repr | isi (t : Ty)
  | ix | slc (lo hi : Bool) | rev | tup | join | lindex | lrange | starL | starT2 | dictzip
  deriving DecidableEq
inductive Tg where | nm (i : Nat) | tp (l : Tg) | nil | cons (t : Tg) (r : Tg)
mutual
inductive Ex where
  | var (i : Nat) | frz (i : Nat) | lit (d : D) | glob (g : Nat)
  | op (o : Op) (es : Exs)
  | and_ (es : Exs) | or_ (es : Exs) | not_ (e : Ex)
  | lele (a b c : Ex)
  | ite (c a b : Ex)
  | pop (i : Nat) | popAt (i : Nat) (e : Ex)
  | fr (f : Fx)
  | dcomp (vs : List Nat) (tg : Tg) (it : It) (k v : Ex)
inductive Exs where | nil | cons (e : Ex) (es : Exs)
/-- arguments: what is new or shared, or a name whose own list is lent -/
inductive Ags where | nil | fx (f : Fx) (r : Ags) | ref (i : Nat) (r : Ags)
/-- what gives a shared tree or a new list of its own -/
inductive Fx where
  | ex (e : Ex) | disp (es : Exs) | rep (e n : Ex) | list (e : Ex)
  | comp (vs : List Nat) (tg : Tg) (it : It) (f : Fx)
  | compIf (vs : List Nat) (tg : Tg) (it : It) (c : Ex) (f : Fx)
  | call (g : Nat) (as : Ags)
/-- what is walked -/
inductive It where | ex (e : Ex) | rng1 (a : Ex) | rng2 (a b : Ex) | rng3 (a b c : Ex) | enum (e : Ex) | zip (a b : Ex)
end
inductive Prs where | nil | cons (i : Nat) (f : Fx) (r : Prs)
mutual
inductive Sm where
  | asg (i : Nat) (f : Fx) | par (p : Prs) | unp (tg : Tg) (e : Ex)
  | app (i : Nat) (p : Exs) (f : Fx) | ext (i : Nat) (p : Exs) (e : Ex) | set (i : Nat) (p : Exs) (k e : Ex)
  | expr (e : Ex)
  | ite (c : Ex) (a b : Sms) | whil (c : Ex) (b : Sms) | for_ (tg : Tg) (it : It) (b : Sms)
  | ret (f : Fx) | retN | brk | cont | pass | stuck
inductive Sms where | nil | cons (s : Sm) (r : Sms)
end

/-! ### which expressions may change an owned list -/
mutual
def Ex.mut : Ex → Bool
  | .var _ | .frz _ | .lit _ | .glob _ => false
  | .op _ es => es.mut
  | .and_ es => es.mut
  | .or_ es => es.mut
  | .not_ e => e.mut
  | .lele a b c => a.mut || (b.mut || c.mut)
  | .ite c a b => c.mut || (a.mut || b.mut)
  | .pop _ => true
  | .popAt _ _ => true
  | .fr f => f.mut
  | .dcomp _ _ it k v => it.mut || (k.mut || v.mut)
def Exs.mut : Exs → Bool
  | .nil => false
  | .cons e es => e.mut || es.mut
def Ags.mut : Ags → Bool
  | .nil => false
  | .fx f r => f.mut || r.mut
  | .ref _ _ => true
def Fx.mut : Fx → Bool
  | .ex e => e.mut
  | .disp es => es.mut
  | .rep e n => e.mut || n.mut
  | .list e => e.mut
  | .compIf _ _ it c f => it.mut || (c.mut || f.mut)
  | .comp _ _ it f => it.mut || f.mut
  | .call _ _ => true
def It.mut : It → Bool
  | .ex e => e.mut
  | .rng1 a => a.mut
  | .rng2 a b => a.mut || b.mut
  | .rng3 a b c => a.mut || (b.mut || c.mut)
  | .enum e => e.mut
  | .zip a b => a.mut || b.mut
end

/-! ### operations on trees -/
def LIM : Nat := 1000000
/-- the items of a list or a tuple -/
def T.items : T → Option (List T)
  | .im (.lst ds) => some (ds.map .im)
  | .im (.tup ds) => some (ds.map .im)
  | .ls ts => some ts
  | _ => none
/-- the items, all of them shared -/
def imsOf : List T → Option (List D)
  | [] => some []
  | .im d :: ts => match imsOf ts with
    | some ds => some (d :: ds)
    | none => none
  | .ls _ :: _ => none
def T.lst? : T → Option (List D)
  | .im (.lst ds) => some ds
  | .ls ts => imsOf ts
  | _ => none
def T.seq? : T → Option (List D)
  | .im (.lst ds) => some ds
  | .im (.tup ds) => some ds
  | .ls ts => imsOf ts
  | _ => none
def T.isIm : T → Bool
  | .im _ => true
  | .ls _ => false
def scalEq : D → D → Option Bool
  | .non, .non => some true
  | .non, .int _ => some false
  | .int _, .non => some false
  | .non, .bl _ => some false
  | .bl _, .non => some false
  | .non, .str _ => some false
  | .str _, .non => some false
  | .int a, .int b => some (decide (a = b))
  | .bl a, .bl b => some (decide (a = b))
  | .str a, .str b => some (decide (a = b))
  | .int _, .str _ => some false
  | .str _, .int _ => some false
  | .bl _, .str _ => some false
  | .str _, .bl _ => some false
  | _, _ => none
mutual
/-- == at any depth -/
def D.eqb : D → D → Bool
  | .non, .non => true
  | .bl a, .bl b => a == b
  | .bl a, .int j => (if a then 1 else 0) == j
  | .int i, .bl b => i == (if b then 1 else 0)
  | .int a, .int b => a == b
  | .str a, .str b => a == b
  | .tup a, .tup b => eqbs a b
  | .lst a, .lst b => eqbs a b
  | _, _ => false
def eqbs : List D → List D → Bool
  | [], [] => true
  | d :: ds, e :: es => d.eqb e && eqbs ds es
  | _, _ => false
end
mutual
/-- a tree as the library's data -/
def D.py : D → PyData
  | .non => .none
  | .bl b => .bool b
  | .int i => .int i
  | .str s => .str ⟨s.toArray⟩
  | .tup ds => .tuple (pys ds)
  | .lst ds => .list (pys ds)
  | .dct _ _ => .dict []
def pys : List D → List PyData
  | [] => []
  | d :: ds => d.py :: pys ds
end
def D.flat : D → Bool
  | .non | .bl _ | .int _ | .str _ => true
  | _ => false
def D.ints : List D → Option (List Int)
  | [] => some []
  | .int i :: ds => match D.ints ds with
    | some is => some (i :: is)
    | none => none
  | _ => none
def D.bls : List D → Option (List Bool)
  | [] => some []
  | .bl b :: ds => match D.bls ds with
    | some bs => some (b :: bs)
    | none => none
  | _ => none
def D.strs : List D → Option (List (List Nat))
  | [] => some []
  | .str s :: ds => match D.strs ds with
    | some ss => some (s :: ss)
    | none => none
  | _ => none
def cutA {α : Type} (xs : List α) (lo hi : Option Int) : List α := (xs.drop (HT.sIx xs.length 0 lo)).take (HT.sIx xs.length xs.length hi - HT.sIx xs.length 0 lo)
def joinN (a : List Nat) : List (List Nat) → List Nat
  | [] => []
  | [s] => s
  | s :: t :: r => s ++ (a ++ joinN a (t :: r))
def Ty.has : Ty → D → Bool
  | .int, .int _ => true
  | .int, .bl _ => true
  | .bool, .bl _ => true
  | .str, .str _ => true
  | .tuple, .tup _ => true
  | .list, .lst _ => true
  | .non, .non => true
  | .dict, .dct _ _ => true
  | _, _ => false
/-- no dict within -/
def D.noD (d : D) : Bool := !d.py.hasDict
def D.key : D → Option Key
  | .int i => some (.inl i)
  | .str s => some (.inr ⟨s.toArray⟩)
  | _ => none
def kD : Key → D
  | .inl i => .int i
  | .inr s => .str s.cps.toList
def dFind : List Key → List D → Key → Option D
  | a :: ks, d :: ds, k => if a = k then some d else dFind ks ds k
  | _, _, _ => none
def putD (kds : List (Key × D)) (k : Key) (d : D) : List (Key × D) :=
  if (kds.any fun kd => decide (kd.1 = k)) = true then kds.map (fun kd => if kd.1 = k then (kd.1, d) else kd) else kds ++ [(k, d)]
def mkDct (kds : List (Key × D)) : D := .dct (kds.map (·.1)) (kds.map (·.2))
def pairsD : List D → Option (List (Key × D))
  | [] => some []
  | .tup [k, v] :: ds => match k.key, pairsD ds with
    | some k, some r => some ((k, v) :: r)
    | _, _ => none
  | _ => none
def dctOf (kds : List (Key × D)) : D := mkDct (kds.foldl (fun m kd => putD m kd.1 kd.2) [])
def imB (b : Bool) : Option T := some (.im (.bl b))
def imI (i : Int) : Option T := some (.im (.int i))
def big (i : Int) : Bool := decide (i.natAbs < 2 ^ 2000)
def opSl (x : T) (lo hi : Option Int) : Option T := match x with
  | .im (.str s) => if s.length ≤ LIM then some (.im (.str (cutA s lo hi))) else none
  | .im (.tup ds) => if ds.length ≤ LIM then some (.im (.tup (cutA ds lo hi))) else none
  | .im (.lst ds) => if ds.length ≤ LIM then some (.im (.lst (cutA ds lo hi))) else none
  | .ls ts => match imsOf ts with
    | some ds => if ds.length ≤ LIM then some (.im (.lst (cutA ds lo hi))) else none
    | none => none
  | _ => none
def opIx (x : T) (i : Int) : Option T := match x with
  | .im (.str s) => if s.length ≤ LIM then (match atI s i with
    | some c => some (.im (.str [c]))
    | none => none) else none
  | .im (.tup ds) => match atI ds i with
    | some d => some (.im d)
    | none => none
  | .im (.lst ds) => match atI ds i with
    | some d => some (.im d)
    | none => none
  | .ls ts => atI ts i
  | _ => none
/-- x[y]: of a dict, of anything else -/
def opIxA (x y : T) : Option T := match x, y with
  | .im (.dct ks ds), .im d => match d.key with
    | some k => match dFind ks ds k with
      | some v => some (.im v)
      | none => none
    | none => none
  | x, .im (.int i) => opIx x i
  | _, _ => none
def opAdd : T → T → Option T
  | .im (.int a), .im (.int b) => imI (a + b)
  | .im (.str a), .im (.str b) => if a.length + b.length ≤ LIM then some (.im (.str (a ++ b))) else none
  | .im (.tup a), .im (.tup b) => if a.length + b.length ≤ LIM then some (.im (.tup (a ++ b))) else none
  | x, y => match x.lst?, y.lst? with
    | some a, some b => if a.length + b.length ≤ LIM then some (.im (.lst (a ++ b))) else none
    | _, _ => none
def opMul : T → T → Option T
  | .im (.int a), .im (.int b) => if big a && big b then imI (a * b) else none
  | .im (.str a), .im (.int n) => if a.length * n.toNat ≤ LIM ∧ n ≤ LIM ∧ -LIM ≤ n then some (.im (.str (List.replicate n.toNat a).flatten)) else none
  | _, _ => none
def opEq (x y : D) : Option Bool := match scalEq x y with
  | some b => some b
  | none => if SeqAt.shaped x.py && (SeqAt.shaped y.py && (x.noD && y.noD)) then some (x.eqb y) else none
def opIn (x y : T) : Option Bool := match x, y with
  | .im (.str [c]), .im (.str s) => some (decide (c ∈ s))
  | .im d, .im (.dct ks ds) => match d.key with
    | some k => some (dFind ks ds k).isSome
    | none => none
  | .im d, y => match y.seq? with
    | some ds => if d.flat && ds.all D.flat then some (ds.any fun e => e.eqb d)
      else if SeqAt.shaped d.py && (PyData.canLayAll0 (pys ds) && (d.noD && !PyData.hasDictAll (pys ds))) then some (ds.any fun e => e.eqb d) else none
    | none => none
  | _, _ => none
def opLen (x : T) : Option Int := match x with
  | .im (.str s) => if s.length ≤ LIM then some s.length else none
  | .im (.lst ds) => some ds.length
  | .im (.tup ds) => some ds.length
  | .ls ts => some ts.length
  | _ => none
def strLt (a b : List Nat) : Bool := decide (a < b)
def opShown (d : D) : Option T := if d.noD && d.py.showable && decide (d.py.depth ≤ 60) && decide (d.py.shown.length ≤ LIM) then some (.im (.str d.py.shown.cps.toList)) else none
def int1 (f : Int → Option T) : T → Option T
  | .im (.int a) => f a
  | _ => none
def int2 (f : Int → Int → Option T) : T → T → Option T
  | .im (.int a), .im (.int b) => f a b
  | _, _ => none
def int3 (f : Int → Int → Int → Option T) : T → T → T → Option T
  | .im (.int a), .im (.int b), .im (.int c) => f a b c
  | _, _, _ => none
def im1 (f : D → Option T) : T → Option T
  | .im d => f d
  | .ls _ => none
def im2 (f : D → D → Option T) : T → T → Option T
  | .im d, .im e => f d e
  | _, _ => none
def onL (f : List D → Option T) (x : T) : Option T := match x.lst? with
  | some ds => f ds
  | none => none
def opLt : T → T → Option T
  | .im (.str a), .im (.str b) => imB (strLt a b)
  | x, y => int2 (fun i j => imB (decide (i < j))) x y
def isNon : D → Bool
  | .non => true
  | _ => false
def opInt : T → Option T
  | .im (.int a) => imI a
  | .im (.bl b) => imI (if b then 1 else 0)
  | _ => none
def opTuple : T → Option T
  | .im (.tup ds) => some (.im (.tup ds))
  | .im (.str s) => if s.length ≤ LIM then some (.im (.tup (s.map fun c => .str [c]))) else none
  | x => onL (fun ds => some (.im (.tup ds))) x
def opRev : T → Option T
  | .im (.str s) => if s.length ≤ LIM then some (.im (.str s.reverse)) else none
  | x => onL (fun ds => if ds.length ≤ LIM then some (.im (.lst ds.reverse)) else none) x
def opTup (ts : List T) : Option T := match imsOf ts with
  | some ds => if ds.length ≤ LIM then some (.im (.tup ds)) else none
  | none => none
def opJoin (a : D) (x : T) : Option T := match a, x.seq? with
  | .str a, some ds => (match D.strs ds with
    | some ss => if (ss.map List.length).sum + ss.length * a.length ≤ LIM then some (.im (.str (joinN a ss))) else none
    | none => none)
  | _, _ => none
def opLix (d : D) (ds : List D) : Option T := if d.flat && ds.all D.flat then (match ds.findIdx? (fun e => e.eqb d) with
  | some j => imI j
  | none => none) else none
def opStarL (x : T) (ts : List T) : Option T := match x.seq?, imsOf ts with
  | some ds, some es => if ds.length + es.length ≤ LIM then some (.im (.lst (ds ++ es))) else none
  | _, _ => none
def opStarT (x y : T) : Option T := match x.seq?, y.seq? with
  | some ds, some es => if ds.length + es.length ≤ LIM then some (.im (.tup (ds ++ es))) else none
  | _, _ => none
def opDz (x y : T) : Option T := match x, y.lst? with
  | .im (.str s), some ds => if s.length ≤ LIM ∧ ds.length ≤ LIM then some (.im (dctOf ((s.zip ds).map fun p => (.inr ⟨#[p.1]⟩, p.2)))) else none
  | _, _ => none
def Op.run : Op → List T → Option T
  | .add, [x, y] => opAdd x y
  | .sub, [x, y] => int2 (fun a b => imI (a - b)) x y
  | .mul, [x, y] => opMul x y
  | .fdiv, [x, y] => int2 (fun a b => if 0 < b ∧ big b = true then imI (a / b) else none) x y
  | .mod, [x, y] => int2 (fun a b => if 0 < b then imI (a % b) else none) x y
  | .pow, [x, y] => int2 (fun a b => if 0 ≤ b ∧ b ≤ 1000 ∧ a.natAbs < 2 ^ 2000 then imI (a ^ b.toNat) else none) x y
  | .neg, [x] => int1 (fun a => imI (-a)) x
  | .eq, [x, y] => (opEq x.view y.view).bind imB
  | .ne, [x, y] => (opEq x.view y.view).bind fun b => imB (!b)
  | .lt, [x, y] => opLt x y
  | .le, [x, y] => int2 (fun i j => imB (decide (i ≤ j))) x y
  | .gt, [x, y] => int2 (fun i j => imB (decide (j < i))) x y
  | .ge, [x, y] => int2 (fun i j => imB (decide (j ≤ i))) x y
  | .isN, [x] => im1 (fun d => imB (isNon d)) x
  | .notN, [x] => im1 (fun d => imB (!isNon d)) x
  | .in_, [x, y] => (opIn x y).bind imB
  | .nin, [x, y] => (opIn x y).bind fun b => imB (!b)
  | .len, [x] => (opLen x).bind imI
  | .int, [x] => opInt x
  | .abs, [x] => int1 (fun a => imI (if a < 0 then -a else a)) x
  | .min2, [x, y] => int2 (fun a b => imI (if b < a then b else a)) x y
  | .min3, [x, y, z] => int3 (fun a b c => imI (min a (min b c))) x y z
  | .max2, [x, y] => int2 (fun a b => imI (if b > a then b else a)) x y
  | .sum, [x] => onL (fun ds => (D.ints ds).bind fun ns => imI ns.sum) x
  | .all, [x] => onL (fun ds => (D.bls ds).bind fun bs => imB (bs.all id)) x
  | .any, [x] => onL (fun ds => (D.bls ds).bind fun bs => imB (bs.any id)) x
  | .tuple, [x] => opTuple x
  | .repr, [x] => im1 opShown x
  | .isi t, [x] => im1 (fun d => imB (t.has d)) x
  | .ix, [x, y] => opIxA x y
  | .slc false false, [x] => opSl x none none
  | .slc true false, [x, y] => int1 (fun i => opSl x (some i) none) y
  | .slc false true, [x, y] => int1 (fun j => opSl x none (some j)) y
  | .slc true true, [x, y, z] => int2 (fun i j => opSl x (some i) (some j)) y z
  | .rev, [x] => opRev x
  | .tup, ts => opTup ts
  | .join, [x, y] => im1 (fun d => opJoin d y) x
  | .lindex, [x, y] => im1 (fun d => onL (opLix d) x) y
  | .lrange, [x] => int1 (fun a => if a ≤ LIM ∧ -LIM ≤ a then some (.im (.lst ((List.range a.toNat).map fun i => .int (i : Nat)))) else none) x
  | .starL, x :: ts => opStarL x ts
  | .starT2, [x, y] => opStarT x y
  | .dictzip, [x, y] => opDz x y
  | _, _ => none

/-! ### targets -/
def bind1 (pins : List Nat) (i : Nat) (t : T) (ρ : Rho) : Option Rho := if i < ρ.length ∧ i ∉ pins then some (ρ.set i (some t)) else none
def Tg.bind (pins : List Nat) : Tg → D → Rho → Option Rho
  | .nm i, d, ρ => bind1 pins i (.im d) ρ
  | .tp l, .tup ds, ρ => l.bind pins (.lst ds) ρ
  | .nil, .lst [], ρ => some ρ
  | .cons t r, .lst (d :: ds), ρ => match t.bind pins d ρ with
    | some ρ1 => r.bind pins (.lst ds) ρ1
    | none => none
  | _, _, _ => none

/-! ### what is walked -/
def rngI (a : Int) (n : Nat) (c : Int) : List D := (List.range n).map fun i => .int (a + (i : Nat) * c)
def stepsN (a b c : Int) : Nat := if 0 < c then ((b - a + c - 1) / c).toNat else ((a - b + -c - 1) / -c).toNat
def T.walk : T → Option (List D)
  | .im (.lst ds) => some ds
  | .im (.tup ds) => some ds
  | .im (.str s) => some (s.map fun c => .str [c])
  | .ls ts => imsOf ts
  | _ => none
def okI (a : Int) : Bool := decide (-(10 ^ 15) < a) && decide (a < 10 ^ 15)
def rng2 (a b : Int) : Option (List D) := if okI a && okI b then some (rngI a (b - a).toNat 1) else none
def rng3 (a b c : Int) : Option (List D) := if okI a && okI b && decide (c = -1) then some (rngI a (a - b).toNat c) else none
def enumD : Nat → List D → List D
  | _, [] => []
  | n, d :: ds => .tup [.int n, d] :: enumD (n + 1) ds
/-- a list (true) or a tuple (false) -/
def sqD : D → Option (Bool × List D)
  | .lst ds => some (true, ds)
  | .tup ds => some (false, ds)
  | _ => none
def zipD : List D → List D → List D
  | a :: as, b :: bs => .tup [a, b] :: zipD as bs
  | _, _ => []

/-! ### functions: what each gives, and what becomes of what was lent to it -/
abbrev Fns := Nat → List T → Option (T × List T)
/-- the arguments, at the end of their evaluation -/
inductive Ar where | v (t : T) | r (i : Nat)
def arVals (ρ : Rho) : List Ar → Option (List T × Rho)
  | [] => some ([], ρ)
  | .v t :: r => match arVals ρ r with
    | some (ts, ρ1) => some (t :: ts, ρ1)
    | none => none
  | .r i :: r => match ρ[i]? with
    | some (some (.ls us)) => match arVals (ρ.set i none) r with
      | some (ts, ρ1) => some (.ls us :: ts, ρ1)
      | none => none
    | _ => none
def arBack (ρ : Rho) : List Ar → List T → Option Rho
  | [], [] => some ρ
  | .v _ :: r, _ :: ts => arBack ρ r ts
  | .r i :: r, t :: ts => arBack (ρ.set i (some t)) r ts
  | _, _ => none

section
variable (Φ : Fns) (G : Nat → Option D)
def restore (vs : List Nat) (ρ0 ρ : Rho) : Rho := match vs with
  | [] => ρ
  | v :: vs => (restore vs ρ0 ρ).set v ((ρ0[v]?).getD none)
def wipeR (ρ : Rho) : List Nat → Rho
  | [] => ρ
  | v :: vs => (wipeR ρ vs).set v none
/-- the elements of a comprehension; a turn gives the slots behind it, and an element or none -/
def compL (turn : D → Rho → Option (Option T × Rho)) : List D → Rho → Option (List T × Rho)
  | [], ρ => some ([], ρ)
  | d :: ds, ρ => match turn d ρ with
    | some (o, ρ1) => match compL turn ds ρ1 with
      | some (ts, ρ2) => some (match o with | some t => t :: ts | none => ts, ρ2)
      | none => none
    | none => none
/-- the slots of a block's own names: none of them owns a list -/
def plain (vs : List Nat) (ρ : Rho) : Bool := vs.all fun v => match ρ[v]? with
  | some (some (.ls _)) => false
  | some _ => true
  | none => false
mutual
def Ex.ev : Ex → Rho → Option (T × Rho)
  | .var i, ρ => match ρ[i]? with
    | some (some t) => some (t, ρ)
    | _ => none
  | .frz i, ρ => match ρ[i]? with
    | some (some t) => some (.im t.view, ρ.set i (some (.im t.view)))
    | _ => none
  | .lit d, ρ => some (.im d, ρ)
  | .glob g, ρ => match G g with
    | some d => some (.im d, ρ)
    | none => none
  | .op o es, ρ => match es.evs ρ with
    | some (ts, ρ1) => match o.run ts with
      | some t => some (t, ρ1)
      | none => none
    | none => none
  | .and_ es, ρ => match es.evAnd ρ with
    | some (b, ρ1) => some (.im (.bl b), ρ1)
    | none => none
  | .or_ es, ρ => match es.evOr ρ with
    | some (b, ρ1) => some (.im (.bl b), ρ1)
    | none => none
  | .not_ e, ρ => match e.ev ρ with
    | some (.im (.bl b), ρ1) => some (.im (.bl (!b)), ρ1)
    | _ => none
  | .lele a b c, ρ => match a.ev ρ with
    | some (.im (.int i), ρ1) => match b.ev ρ1 with
      | some (.im (.int j), ρ2) => if i ≤ j then (match c.ev ρ2 with
        | some (.im (.int l), ρ3) => some (.im (.bl (decide (j ≤ l))), ρ3)
        | _ => none) else some (.im (.bl false), ρ2)
      | _ => none
    | _ => none
  | .ite c a b, ρ => match c.ev ρ with
    | some (.im (.bl true), ρ1) => a.ev ρ1
    | some (.im (.bl false), ρ1) => b.ev ρ1
    | _ => none
  | .pop i, ρ => match ρ[i]? with
    | some (some (.ls ts)) => match ts[ts.length - 1]? with
      | some (.im d) => some (.im d, ρ.set i (some (.ls ts.dropLast)))
      | _ => none
    | _ => none
  | .popAt i e, ρ => match ρ[i]? with
    | some (some (.ls _)) => match e.ev ρ with
      | some (.im (.int k), ρ1) => match ρ1[i]? with
        | some (some (.ls ts)) => match ixN ts.length k with
          | some j => match ts[j]? with
            | some (.im d) => if ts.length ≤ LIM then some (.im d, ρ1.set i (some (.ls (ts.eraseIdx j)))) else none
            | _ => none
          | none => none
        | _ => none
      | _ => none
    | _ => none
  | .fr f, ρ => match f.evf ρ with
    | some (t, ρ1) => some (.im t.view, ρ1)
    | none => none
  | .dcomp vs tg it k v, ρ => match it.evi ρ with
    | some (ds, ρ1) => if plain vs ρ1 && decide (ds.length ≤ LIM) then
        match compL (fun d ρ => match tg.bind [] d ρ with
            | some ρ2 => match k.ev ρ2 with
              | some (.im kd, ρ3) => match v.ev ρ3 with
                | some (.im vd, ρ4) => match kd.key with
                  | some _ => some (some (.im (.tup [kd, vd])), wipeR ρ4 vs)
                  | none => none
                | _ => none
              | _ => none
            | none => none) ds (wipeR ρ1 vs) with
        | some (ts, ρ5) => match imsOf ts with
          | some us => match pairsD us with
            | some kds => some (.im (dctOf kds), restore vs ρ1 ρ5)
            | none => none
          | none => none
        | none => none
      else none
    | none => none
def Exs.evs : Exs → Rho → Option (List T × Rho)
  | .nil, ρ => some ([], ρ)
  | .cons e es, ρ => match e.ev ρ with
    | some (t, ρ1) => match es.evs ρ1 with
      | some (ts, ρ2) => if es.mut && !t.isIm then none else some (t :: ts, ρ2)
      | none => none
    | none => none
def Exs.evAnd : Exs → Rho → Option (Bool × Rho)
  | .nil, _ => none
  | .cons e .nil, ρ => match e.ev ρ with
    | some (.im (.bl b), ρ1) => some (b, ρ1)
    | _ => none
  | .cons e (.cons e2 es), ρ => match e.ev ρ with
    | some (.im (.bl true), ρ1) => (Exs.cons e2 es).evAnd ρ1
    | some (.im (.bl false), ρ1) => some (false, ρ1)
    | _ => none
def Exs.evOr : Exs → Rho → Option (Bool × Rho)
  | .nil, _ => none
  | .cons e .nil, ρ => match e.ev ρ with
    | some (.im (.bl b), ρ1) => some (b, ρ1)
    | _ => none
  | .cons e (.cons e2 es), ρ => match e.ev ρ with
    | some (.im (.bl false), ρ1) => (Exs.cons e2 es).evOr ρ1
    | some (.im (.bl true), ρ1) => some (true, ρ1)
    | _ => none
def Ags.eva : Ags → Rho → Option (List Ar × Rho)
  | .nil, ρ => some ([], ρ)
  | .fx f r, ρ => match f.evf ρ with
    | some (t, ρ1) => match r.eva ρ1 with
      | some (as, ρ2) => some (.v t :: as, ρ2)
      | none => none
    | none => none
  | .ref i r, ρ => match ρ[i]? with
    | some (some _) => match r.eva ρ with
      | some (as, ρ2) => some (.r i :: as, ρ2)
      | none => none
    | _ => none
def Fx.evf : Fx → Rho → Option (T × Rho)
  | .ex e, ρ => match e.ev ρ with
    | some (.im d, ρ1) => some (.im d, ρ1)
    | _ => none
  | .disp es, ρ => match es.evs ρ with
    | some (ts, ρ1) => match imsOf ts with
      | some _ => if ts.length ≤ LIM then some (.ls ts, ρ1) else none
      | none => none
    | none => none
  | .rep e n, ρ => match e.ev ρ with
    | some (.im d, ρ1) => match n.ev ρ1 with
      | some (.im (.int k), ρ2) => if k ≤ LIM ∧ -LIM ≤ k then some (.ls (List.replicate k.toNat (.im d)), ρ2) else none
      | _ => none
    | _ => none
  | .list e, ρ => match e.ev ρ with
    | some (t, ρ1) => match t.walk with
      | some ds => if ds.length ≤ LIM then some (.ls (ds.map .im), ρ1) else none
      | none => none
    | none => none
  | .comp vs tg it f, ρ => match it.evi ρ with
    | some (ds, ρ1) => if plain vs ρ1 && decide (ds.length ≤ LIM) then
        match compL (fun d ρ => match tg.bind [] d ρ with
            | some ρ2 => match f.evf ρ2 with
              | some (u, ρ4) => some (some u, wipeR ρ4 vs)
              | none => none
            | none => none) ds (wipeR ρ1 vs) with
        | some (ts, ρ5) => some (.ls ts, restore vs ρ1 ρ5)
        | none => none
      else none
    | none => none
  | .compIf vs tg it c f, ρ => match it.evi ρ with
    | some (ds, ρ1) => if plain vs ρ1 && decide (ds.length ≤ LIM) then
        match compL (fun d ρ => match tg.bind [] d ρ with
            | some ρ2 => match c.ev ρ2 with
              | some (.im (.bl true), ρ3) => match f.evf ρ3 with
                | some (u, ρ4) => some (some u, wipeR ρ4 vs)
                | none => none
              | some (.im (.bl false), ρ3) => some (none, wipeR ρ3 vs)
              | _ => none
            | none => none) ds (wipeR ρ1 vs) with
        | some (ts, ρ5) => some (.ls ts, restore vs ρ1 ρ5)
        | none => none
      else none
    | none => none
  | .call g as, ρ => match as.eva ρ with
    | some (ars, ρ1) => match arVals ρ1 ars with
      | some (ts, ρ3) => match Φ g ts with
        | some (t, us) => match arBack ρ3 ars us with
          | some ρ2 => some (t, ρ2)
          | none => none
        | none => none
      | none => none
    | none => none
def It.evi : It → Rho → Option (List D × Rho)
  | .ex e, ρ => match e.ev ρ with
    | some (.im d, ρ1) => match (T.im d).walk with
      | some ds => some (ds, ρ1)
      | none => none
    | _ => none
  | .rng1 a, ρ => match a.ev ρ with
    | some (.im (.int n), ρ1) => match rng2 0 n with
      | some ds => some (ds, ρ1)
      | none => none
    | _ => none
  | .rng2 a b, ρ => match a.ev ρ with
    | some (.im (.int m), ρ1) => match b.ev ρ1 with
      | some (.im (.int n), ρ2) => match rng2 m n with
        | some ds => some (ds, ρ2)
        | none => none
      | _ => none
    | _ => none
  | .rng3 a b c, ρ => match a.ev ρ with
    | some (.im (.int m), ρ1) => match b.ev ρ1 with
      | some (.im (.int n), ρ2) => match c.ev ρ2 with
        | some (.im (.int k), ρ3) => match rng3 m n k with
          | some ds => some (ds, ρ3)
          | none => none
        | _ => none
      | _ => none
    | _ => none
  | .enum e, ρ => match e.ev ρ with
    | some (.im (.lst ds), ρ1) => some (enumD 0 ds, ρ1)
    | _ => none
  | .zip a b, ρ => match a.ev ρ with
    | some (.im d, ρ1) => match b.ev ρ1 with
      | some (.im e, ρ2) => match sqD d, sqD e with
        | some (_, ds), some (_, es) => some (zipD ds es, ρ2)
        | _, _ => none
      | _ => none
    | _ => none
end

/-! ### statements -/
inductive Fl where | nx | bk | ct | rt (t : T)
def natsOf : List T → Option (List Nat)
  | [] => some []
  | .im (.int i) :: ts => match natsOf ts with
    | some ns => if 0 ≤ i then some (i.toNat :: ns) else none
    | none => none
  | _ => none
/-- a list of a slot is changed: at the path p -/
def chg (i : Nat) (p : List Nat) (f : List T → Option (List T)) (ρ : Rho) : Option Rho := match ρ[i]? with
  | some (some t) => match t.at p with
    | some (.ls ts) => match f ts with
      | some us => some (ρ.set i (some (t.setAt p (.ls us))))
      | none => none
    | _ => none
  | _ => none
def has (i : Nat) (ρ : Rho) : Bool := match ρ[i]? with
  | some (some _) => true
  | _ => false
/-- there a list of its own stands -/
def isLs (i : Nat) (p : List Nat) (ρ : Rho) : Bool := match ρ[i]? with
  | some (some t) => match t.at p with
    | some (.ls _) => true
    | _ => false
  | _ => false
def forL (body : D → Rho → Option (Fl × Rho)) : List D → Rho → Option (Fl × Rho)
  | [], ρ => some (.nx, ρ)
  | d :: ds, ρ => match body d ρ with
    | some (.nx, ρ1) => forL body ds ρ1
    | some (.ct, ρ1) => forL body ds ρ1
    | some (.bk, ρ1) => some (.nx, ρ1)
    | some (.rt r, ρ1) => some (.rt r, ρ1)
    | none => none
def whileL (test : Rho → Option (Bool × Rho)) (body : Rho → Option (Fl × Rho)) : Nat → Rho → Option (Fl × Rho)
  | 0, _ => none
  | n + 1, ρ => match test ρ with
    | some (true, ρ1) => match body ρ1 with
      | some (.nx, ρ2) => whileL test body n ρ2
      | some (.ct, ρ2) => whileL test body n ρ2
      | some (.bk, ρ2) => some (.nx, ρ2)
      | some (.rt r, ρ2) => some (.rt r, ρ2)
      | none => none
    | some (false, ρ1) => some (.nx, ρ1)
    | none => none
def W : Nat := 1000000
def Ex.evB (e : Ex) (ρ : Rho) : Option (Bool × Rho) := match e.ev Φ G ρ with
  | some (.im (.bl b), ρ1) => some (b, ρ1)
  | _ => none
/-- several values, one behind the other -/
def Prs.evp : Prs → Rho → Option (List T × Rho)
  | .nil, ρ => some ([], ρ)
  | .cons _ f r, ρ => match f.evf Φ G ρ with
    | some (t, ρ1) => match r.evp ρ1 with
      | some (ts, ρ2) => some (t :: ts, ρ2)
      | none => none
    | none => none
def Prs.ixs : Prs → List Nat
  | .nil => []
  | .cons i _ r => i :: r.ixs
variable (pins : List Nat)
def binds : List Nat → List T → Rho → Option Rho
  | [], [], ρ => some ρ
  | i :: is, t :: ts, ρ => match bind1 pins i t ρ with
    | some ρ1 => binds is ts ρ1
    | none => none
  | _, _, _ => none
mutual
def Sm.run : Sm → Rho → Option (Fl × Rho)
  | .asg i f, ρ => match f.evf Φ G ρ with
    | some (t, ρ1) => match bind1 pins i t ρ1 with
      | some ρ2 => some (.nx, ρ2)
      | none => none
    | none => none
  | .par p, ρ => match p.evp Φ G ρ with
    | some (ts, ρ1) => match binds pins p.ixs ts ρ1 with
      | some ρ2 => some (.nx, ρ2)
      | none => none
    | none => none
  | .unp tg e, ρ => match e.ev Φ G ρ with
    | some (.im d, ρ1) => match tg.bind pins d ρ1 with
      | some ρ2 => some (.nx, ρ2)
      | none => none
    | _ => none
  | .app i p f, ρ => match p.evs Φ G ρ with
    | some (ks, ρ1) => match natsOf ks with
      | some q => match f.evf Φ G ρ1 with
        | some (u, ρ2) => match chg i q (fun ts => if ts.length < LIM then some (ts ++ [u]) else none) ρ2 with
          | some ρ3 => if has i ρ && (isLs i q ρ1 && (q.isEmpty || !f.mut)) then some (.nx, ρ3) else none
          | none => none
        | none => none
      | none => none
    | none => none
  | .ext i p e, ρ => match p.evs Φ G ρ with
    | some (ks, ρ1) => match natsOf ks with
      | some q => match e.ev Φ G ρ1 with
        | some (.im d, ρ2) => match (T.im d).seq? with
          | some ds => match chg i q (fun ts => if ts.length + ds.length ≤ LIM then some (ts ++ ds.map .im) else none) ρ2 with
            | some ρ3 => if has i ρ && (isLs i q ρ1 && (q.isEmpty || !e.mut)) then some (.nx, ρ3) else none
            | none => none
          | none => none
        | _ => none
      | none => none
    | none => none
  | .set i p k e, ρ => match e.ev Φ G ρ with
    | some (.im d, ρ1) => match p.evs Φ G ρ1 with
      | some (ks, ρ2) => match natsOf ks with
        | some q => match k.ev Φ G ρ2 with
          | some (.im (.int j), ρ3) => match chg i q (fun ts => match ixN ts.length j with
              | some m => some (ts.set m (.im d))
              | none => none) ρ3 with
            | some ρ4 => if has i ρ1 && (isLs i q ρ2 && (q.isEmpty || !k.mut)) then some (.nx, ρ4) else none
            | none => none
          | _ => none
        | none => none
      | none => none
    | _ => none
  | .expr e, ρ => match e.ev Φ G ρ with
    | some (_, ρ1) => some (.nx, ρ1)
    | none => none
  | .ite c a b, ρ => match c.evB Φ G ρ with
    | some (true, ρ1) => a.runs ρ1
    | some (false, ρ1) => b.runs ρ1
    | none => none
  | .whil c b, ρ => whileL (c.evB Φ G) b.runs W ρ
  | .for_ tg it b, ρ => match it.evi Φ G ρ with
    | some (ds, ρ1) => forL (fun d ρ => match tg.bind pins d ρ with
      | some ρ2 => b.runs ρ2
      | none => none) ds ρ1
    | none => none
  | .ret f, ρ => match f.evf Φ G ρ with
    | some (t, ρ1) => some (.rt t, ρ1)
    | none => none
  | .retN, ρ => some (.rt (.im .non), ρ)
  | .brk, ρ => some (.bk, ρ)
  | .cont, ρ => some (.ct, ρ)
  | .pass, ρ => some (.nx, ρ)
  | .stuck, _ => none
def Sms.runs : Sms → Rho → Option (Fl × Rho)
  | .nil, ρ => some (.nx, ρ)
  | .cons s r, ρ => match s.run ρ with
    | some (.nx, ρ1) => r.runs ρ1
    | some (f, ρ1) => some (f, ρ1)
    | none => none
end
end

/-- a def: how many slots, which parameters are lent, its body -/
structure Fd where
  slots : Nat
  params : Nat
  pins : List Nat
  body : Sms
def outs (args : List T) (ρ : Rho) : Option (List T) := match args, ρ with
  | [], _ => some []
  | .im d :: r, _ :: ρ => match outs r ρ with
    | some us => some (.im d :: us)
    | none => none
  | .ls _ :: r, some t :: ρ => match outs r ρ with
    | some us => some (t :: us)
    | none => none
  | _, _ => none
/-- the lent parameters are pinned -/
def pinned (pins : List Nat) : Nat → List T → Bool
  | _, [] => true
  | n, .im _ :: r => pinned pins (n + 1) r
  | n, .ls _ :: r => pins.contains n && pinned pins (n + 1) r
def Fd.call (Φ : Fns) (G : Nat → Option D) (f : Fd) (args : List T) : Option (T × List T) :=
  if args.length = f.params ∧ f.params ≤ f.slots ∧ pinned f.pins 0 args = true then
    match f.body.runs Φ G f.pins (args.map some ++ List.replicate (f.slots - f.params) none) with
    | some (.rt t, ρ) => match outs args ρ with
      | some us => some (t, us)
      | none => none
    | some (.nx, ρ) => match outs args ρ with
      | some us => some (.im .non, us)
      | none => none
    | _ => none
  else none
/-- all the defs, by the depth of calls that is left -/
def sem (G : Nat → Option D) (tbl : Nat → Option Fd) : Nat → Fns
  | 0, _, _ => none
  | n + 1, f, args => match tbl f with
    | some fd => fd.call (sem G tbl n) G args
    | none => none
end Em

set_option Elab.async false
set_option linter.all false
set_option maxRecDepth 100000
set_option maxHeartbeats 4000000
/-! EmD: judgements: an expression of the text computes what the small language's expression computes. -/
namespace Em
open PySem PySem.Spec PyProof.Rows L2

def Val (K : PySem.W.Frag) (C H : Hp) (v : V) (t : T) : Prop := ∃ f, Rp K C H v t f
inductive Vls (K : PySem.W.Frag) (C H : Hp) : List V → List T → Prop
  | nil : Vls K C H [] []
  | cons {v : V} {vs : List V} {t : T} {ts : List T} : Val K C H v t → Vls K C H vs ts → Vls K C H (v :: vs) (t :: ts)
section
variable {K : PySem.W.Frag} {C C' H H' : Hp} {v : V} {t : T} {d : D}
theorem Val.im (h : Is K C v d) : Val K C H v (.im d) := ⟨[], .im h⟩
theorem Val.is (h : Val K C H v (.im d)) : Is K C v d := by
  obtain ⟨f, r⟩ := h
  cases r with
  | im h => exact h
theorem Val.grow (h : Val K C H v t) (e : Sub C C') (k : Sub H H') : Val K C' H' v t := by
  obtain ⟨f, r⟩ := h
  exact ⟨f, r.mono e fun a _ o q => k a o q⟩
theorem Val.keep (h : Val K C H v t) (e : Sub C C') (i : t.isIm = true) : Val K C' H' v t := by
  cases t with
  | im d => exact .im (h.is.mono e)
  | ls ts => cases i
theorem Val.full (h : Val K C H v t) (e : Sub C H) : Is K H v t.view := by
  obtain ⟨f, r⟩ := h
  exact r.view e
theorem Vls.len : ∀ {vs : List V} {ts : List T}, Vls K C H vs ts → vs.length = ts.length
  | _, _, .nil => rfl
  | _, _, .cons _ h => congrArg (· + 1) h.len
theorem Vls.grow (e : Sub C C') (k : Sub H H') : ∀ {vs : List V} {ts : List T}, Vls K C H vs ts → Vls K C' H' vs ts
  | _, _, .nil => .nil
  | _, _, .cons a b => .cons (a.grow e k) (Vls.grow e k b)
/-- items of a list that are all shared -/
theorem Rps.allIm : ∀ {vs : List V} {ts : List T} {f : List Addr} {ds : List D}, Rps K C H vs ts f → imsOf ts = some ds → Iss K C vs ds ∧ ts = ds.map .im
  | _, _, _, ds, .nil, e => by
    cases e; exact ⟨.nil, rfl⟩
  | _, _, _, ds, .cons (t := .im d) (ts := ts) r h, e => by
    unfold imsOf at e
    cases q : imsOf ts with
    | none => rw [q] at e; cases e
    | some es =>
      rw [q] at e
      cases e
      obtain ⟨h1, h2⟩ := Rps.allIm h q
      cases r with
      | im r => exact ⟨.cons r h1, by rw [h2]; rfl⟩
  | _, _, _, ds, .cons (t := .ls _) r h, e => by cases e
theorem Vls.allIm : ∀ {vs : List V} {ts : List T} {ds : List D}, Vls K C H vs ts → imsOf ts = some ds → Iss K C vs ds ∧ ts = ds.map .im
  | _, _, ds, .nil, e => by
    cases e; exact ⟨.nil, rfl⟩
  | _, _, ds, .cons (t := .im d) (ts := ts) r h, e => by
    unfold imsOf at e
    cases q : imsOf ts with
    | none => rw [q] at e; cases e
    | some es =>
      rw [q] at e
      cases e
      obtain ⟨h1, h2⟩ := Vls.allIm h q
      exact ⟨.cons r.is h1, by rw [h2]; rfl⟩
  | _, _, ds, .cons (t := .ls _) r h, e => by cases e
theorem imsOf_len : ∀ {ts : List T} {ds : List D}, imsOf ts = some ds → ts.length = ds.length
  | [], ds, e => by cases e; rfl
  | .im d :: ts, ds, e => by
    unfold imsOf at e
    cases q : imsOf ts with
    | none => rw [q] at e; cases e
    | some es =>
      rw [q] at e; cases e
      exact congrArg (· + 1) (imsOf_len q)
  | .ls _ :: _, _, e => by cases e
end

/-- how the state goes on from H to H' -/
structure Pst (K : PySem.W.Frag) (M : List Addr) (F : Hp) (own : List Addr) (H : Hp) (σ : Sg) (m : Bool) (ρ : Rho) (H' : Hp) (own' : List Addr) : Prop where
  sl : Sl K M F own' H' σ ρ
  sub : ∀ a ∈ own', a ∈ own ∨ H a = none
  cl : Sub (cutl (own ++ M) H) (cutl (own' ++ M) H')
  ext : m = false → Sub H H'
section
variable {K : PySem.W.Frag} {M own own1 own2 : List Addr} {F H H1 H2 : Hp} {σ : Sg} {m m1 m2 : Bool} {ρ ρ1 ρ2 : Rho}
theorem Pst.rf (S : Sl K M F own H σ ρ) : Pst K M F own H σ false ρ H own := ⟨S, fun _ h => .inl h, Sub.rf _, fun _ => Sub.rf _⟩
/-- what is new behind was new ahead, or own -/
theorem back_new {x : Addr} (cl : Sub (cutl (own ++ M) H) (cutl (own1 ++ M) H1)) (fr : Sub F H1) (iF : ∀ a ∈ M, ∃ o, F a = some o) (h : H1 x = none) : x ∈ own ∨ H x = none := by
  by_cases z : x ∈ own
  · exact .inl z
  · refine .inr ?_
    cases hh : H x with
    | none => rfl
    | some o =>
      by_cases m : x ∈ M
      · obtain ⟨o', e⟩ := iF x m
        rw [fr x o' e] at h; cases h
      · have := cut_sub _ _ (cl x o (by rw [cutl_out (by simp [z, m])]; exact hh))
        rw [this] at h; cases h
theorem Pst.tr (a : Pst K M F own H σ m1 ρ1 H1 own1) (b : Pst K M F own1 H1 σ m2 ρ2 H2 own2) : Pst K M F own H σ (m1 || m2) ρ2 H2 own2 where
  sl := b.sl
  sub := fun x hx => by
    rcases b.sub x hx with h | h
    · exact a.sub x h
    · exact back_new a.cl a.sl.frame a.sl.inF h
  cl := a.cl.tr b.cl
  ext := fun e => by
    cases m1 with
    | true => cases e
    | false =>
      have e : m2 = false := e
      exact (a.ext rfl).tr (b.ext e)
theorem Pst.weak (a : Pst K M F own H σ m ρ H1 own1) (h : m1 = false → m = false) : Pst K M F own H σ m1 ρ H1 own1 := ⟨a.sl, a.sub, a.cl, fun e => a.ext (h e)⟩
/-- new objects beside -/
theorem Pst.grow (a : Pst K M F own H σ m ρ H1 own1) (e : Sub H1 H2) : Pst K M F own H σ m ρ H2 own1 := ⟨a.sl.grow e, a.sub, a.cl.tr (cut_ext e), fun z => (a.ext z).tr e⟩
theorem Val.go {v : V} {t : T} (h : Val K (cutl (own1 ++ M) H1) H1 v t) (b : Pst K M F own1 H1 σ m2 ρ2 H2 own2) (i : m2 = true → t.isIm = true) : Val K (cutl (own2 ++ M) H2) H2 v t := by
  cases m2 with
  | true => exact h.keep b.cl (i rfl)
  | false => exact h.grow b.cl (b.ext rfl)
end

/-- in the slots ρ the expression gives t, and leaves the slots ρ' -/
def tJ (K : PySem.W.Frag) (ρ : Rho) (t : T) (m : Bool) (ρ' : Rho) : TE := fun σ H Q => ∃ (M : List Addr) (F : Hp) (own : List Addr), Sl K M F own H σ ρ ∧
  ∀ (v : V) (H' : Hp) (own' : List Addr), Pst K M F own H σ m ρ' H' own' → Val K (cutl (own' ++ M) H') H' v t → Q v H'
def tJs (K : PySem.W.Frag) (ρ : Rho) (ts : List T) (m : Bool) (ρ' : Rho) : TA := fun σ H Q => ∃ (M : List Addr) (F : Hp) (own : List Addr), Sl K M F own H σ ρ ∧
  ∀ (vs : List V) (H' : Hp) (own' : List Addr), Pst K M F own H σ m ρ' H' own' → Vls K (cutl (own' ++ M) H') H' vs ts → Q vs H'
def tJb (K : PySem.W.Frag) (ρ : Rho) (b : Bool) (m : Bool) (ρ' : Rho) : TT := fun σ H Q => ∃ (M : List Addr) (F : Hp) (own : List Addr), Sl K M F own H σ ρ ∧
  ∀ (H' : Hp) (own' : List Addr), Pst K M F own H σ m ρ' H' own' → Q b H'
theorem PE_imp {X : Cx} {e : Expr} {t t' : TE} (h : PE X e t) (k : ∀ σ H Q, t' σ H Q → t σ H Q) : PE X e t' := ⟨fun pins s σ H Q I q => h.run pins s σ H Q I (k σ H Q q)⟩
theorem PT_imp {X : Cx} {e : Expr} {t t' : TT} (h : PT X e t) (k : ∀ σ H Q, t' σ H Q → t σ H Q) : PT X e t' := ⟨fun pins s σ H Q I q => h.run pins s σ H Q I (k σ H Q q)⟩
theorem PW_imp {X : Cx} {e : Expr} {t t' : TT} (h : PW X e t) (k : ∀ σ H Q, t' σ H Q → t σ H Q) : PW X e t' := ⟨fun wh pins s σ H Q I q => h.run wh pins s σ H Q I (k σ H Q q)⟩
theorem PA_imp {X : Cx} {es : List Expr} {t t' : TA} (h : PA X es t) (k : ∀ σ H Q, t' σ H Q → t σ H Q) : PA X es t' := ⟨fun pos pins s σ H Q I q => h.run pos pins s σ H Q I (k σ H Q q)⟩
theorem PS_imp {X : Cx} {st : Stmt} {t t' : TS} (h : PS X st t) (k : ∀ D σ H, t' D σ H → t D σ H) : PS X st t' := ⟨fun pins s σ H D I q => h.run pins s σ H D I (k D σ H q)⟩
theorem PSs_imp {X : Cx} {st : List Stmt} {t t' : TS} (h : PSs X st t) (k : ∀ D σ H, t' D σ H → t D σ H) : PSs X st t' := ⟨fun pins s σ H D I q => h.run pins s σ H D I (k D σ H q)⟩

/-- expressions one behind the other -/
inductive PEs (X : Cx) : List Expr → Rho → List T → Bool → Rho → Prop
  | nil {ρ : Rho} : PEs X [] ρ [] false ρ
  | cons {e : Expr} {es : List Expr} {ρ ρ1 ρ2 : Rho} {t : T} {ts : List T} {m1 m2 : Bool} : PE X e (tJ X.K ρ t m1 ρ1) → PEs X es ρ1 ts m2 ρ2 → (m2 = true → t.isIm = true) → PEs X (e :: es) ρ (t :: ts) (m1 || m2) ρ2
def noStar : List Expr → Bool
  | [] => true
  | .Starred _ _ :: _ => false
  | _ :: r => noStar r
theorem star_cons {e : Expr} {es : List Expr} (h : noStar (e :: es) = true) (env : Env) : starEach (e :: es) env = (false, eval e env) :: starEach es env := by
  cases e <;> first | rfl | (cases h)
theorem star_tail {e : Expr} {es : List Expr} (h : noStar (e :: es) = true) : noStar es = true := by
  cases e <;> first | exact h | (cases h)
theorem PEs.pa {X : Cx} {es : List Expr} {ρ ρ' : Rho} {ts : List T} {m : Bool} (h : PEs X es ρ ts m ρ') : noStar es = true → PA X es (tJs X.K ρ ts m ρ') := by
  induction h with
  | nil =>
    intro _
    refine PA_imp pa_nil fun σ H Q q => ?_
    obtain ⟨M, F, own, S, k⟩ := q
    exact k [] H own (Pst.rf S) .nil
  | cons he hs hi ih =>
    intro z
    refine PA_imp (pa_cons he (ih (star_tail z)) (star_cons z _)) fun σ H Q q => ?_
    obtain ⟨M, F, own, S, k⟩ := q
    refine ⟨M, F, own, S, fun v H1 own1 P1 V1 => ⟨M, F, own1, P1.sl, fun vs H2 own2 P2 V2 => ?_⟩⟩
    exact k (v :: vs) H2 own2 (P1.tr P2) (.cons (V1.go P2 hi) V2)
section
variable {X : Cx} {a b c : Expr} {ρ ρ' : Rho} {t u w : T} {m : Bool}
/-- one, two, three operands -/
theorem PEs.one (h : PEs X [a] ρ [t] m ρ') : ∃ ta, PE X a ta ∧ ∀ (σ : Sg) (H : Hp) (R : V → Hp → Prop),
    (∃ (M : List Addr) (F : Hp) (own : List Addr), Sl X.K M F own H σ ρ ∧ ∀ (v : V) (H' : Hp) (own' : List Addr), Pst X.K M F own H σ m ρ' H' own' → Val X.K (cutl (own' ++ M) H') H' v t → R v H') → ta σ H R := by
  cases h with
  | cons h1 h2 hi =>
    cases h2
    refine ⟨_, h1, fun σ H R ⟨M, F, own, S, k⟩ => ⟨M, F, own, S, fun v H' own' P V => k v H' own' (P.weak fun e => ?_) V⟩⟩
    simpa using e
theorem PEs.two (h : PEs X [a, b] ρ [t, u] m ρ') : ∃ ta tb, PE X a ta ∧ PE X b tb ∧ ∀ (σ : Sg) (H : Hp) (R : V → V → Hp → Prop),
    (∃ (M : List Addr) (F : Hp) (own : List Addr), Sl X.K M F own H σ ρ ∧ ∀ (v z : V) (H' : Hp) (own' : List Addr), Pst X.K M F own H σ m ρ' H' own' → Val X.K (cutl (own' ++ M) H') H' v t → Val X.K (cutl (own' ++ M) H') H' z u → R v z H') →
      ta σ H fun v H1 => tb σ H1 fun z H2 => R v z H2 := by
  cases h with
  | cons h1 h2 hi =>
    obtain ⟨tb, hb, kb⟩ := h2.one
    refine ⟨_, tb, h1, hb, fun σ H R ⟨M, F, own, S, k⟩ => ⟨M, F, own, S, fun v H1 own1 P1 V1 => kb σ H1 _ ⟨M, F, own1, P1.sl, fun z H2 own2 P2 V2 => ?_⟩⟩⟩
    exact k v z H2 own2 (P1.tr P2) (V1.go P2 hi) V2
theorem PEs.three (h : PEs X [a, b, c] ρ [t, u, w] m ρ') : ∃ ta tb tc, PE X a ta ∧ PE X b tb ∧ PE X c tc ∧ ∀ (σ : Sg) (H : Hp) (R : V → V → V → Hp → Prop),
    (∃ (M : List Addr) (F : Hp) (own : List Addr), Sl X.K M F own H σ ρ ∧ ∀ (v z y : V) (H' : Hp) (own' : List Addr), Pst X.K M F own H σ m ρ' H' own' → Val X.K (cutl (own' ++ M) H') H' v t → Val X.K (cutl (own' ++ M) H') H' z u →
      Val X.K (cutl (own' ++ M) H') H' y w → R v z y H') →
      ta σ H fun v H1 => tb σ H1 fun z H2 => tc σ H2 fun y H3 => R v z y H3 := by
  cases h with
  | cons h1 h2 hi =>
    obtain ⟨tb, tc, hb, hc, kb⟩ := h2.two
    refine ⟨_, tb, tc, h1, hb, hc, fun σ H R ⟨M, F, own, S, k⟩ => ⟨M, F, own, S, fun v H1 own1 P1 V1 => kb σ H1 _ ⟨M, F, own1, P1.sl, fun z y H2 own2 P2 V2 V3 => ?_⟩⟩⟩
    exact k v z y H2 own2 (P1.tr P2) (V1.go P2 hi) V2 V3
end

/-! ### operations by values -/
/-- in each heap in which the operands are the trees, the reading holds of what gives the result's tree -/
def Ok1 (K : PySem.W.Frag) (r : V → Hp → VK → Prop) (t u : T) : Prop := ∀ (S : List Addr) (H : Hp) (v : V) (Q : VK), (∀ a ∈ S, ∃ o, H a = some o) → Val K (cutl S H) H v t →
  (∀ (z : V) (H' : Hp), Sub H H' → Val K (cutl S H') H' z u → Q z H') → r v H Q
def Ok2 (K : PySem.W.Frag) (r : R2) (t1 t2 u : T) : Prop := ∀ (S : List Addr) (H : Hp) (v w : V) (Q : VK), (∀ a ∈ S, ∃ o, H a = some o) → Val K (cutl S H) H v t1 → Val K (cutl S H) H w t2 →
  (∀ (z : V) (H' : Hp), Sub H H' → Val K (cutl S H') H' z u → Q z H') → r v w H Q
def OkL (K : PySem.W.Frag) (r : List V → Hp → VK → Prop) (ts : List T) (u : T) : Prop := ∀ (S : List Addr) (H : Hp) (vs : List V) (Q : VK), (∀ a ∈ S, ∃ o, H a = some o) → Vls K (cutl S H) H vs ts →
  (∀ (z : V) (H' : Hp), Sub H H' → Val K (cutl S H') H' z u → Q z H') → r vs H Q
section
variable {K : PySem.W.Frag} {M own : List Addr} {F H : Hp} {σ : Sg} {ρ : Rho}
theorem Sl.dom (S : Sl K M F own H σ ρ) : ∀ a ∈ own ++ M, ∃ o, H a = some o := fun a h => by
  rcases List.mem_append.mp h with h | h
  · obtain ⟨xs, e⟩ := S.rel.dom a h
    exact ⟨_, e⟩
  · obtain ⟨o, e⟩ := S.inF a h
    exact ⟨o, S.frame a o e⟩
end
section
variable {X : Cx} {a b : Expr} {es : List Expr} {pos p : Pos} {ρ ρ' : Rho} {t t1 t2 u : T} {ts : List T} {m : Bool}
theorem PE_bin {op : Operator} {r : R2} (h : PEs X [a, b] ρ [t1, t2] m ρ') (ho : OpR X (binaryOp op) r) (ok : Ok2 X.K r t1 t2 u) : PE X (.BinOp a op b pos) (tJ X.K ρ u m ρ') := by
  obtain ⟨ta, tb, ha, hb, k⟩ := h.two
  refine PE_imp (pe_op ho ha hb) fun σ H Q q => k σ H _ ?_
  obtain ⟨M, F, own, S, q⟩ := q
  exact ⟨M, F, own, S, fun v z H' own' P V1 V2 => ok _ H' v z Q P.sl.dom V1 V2 fun y H2 e Vy => q y H2 own' (P.grow e) Vy⟩
theorem PE_un {op : UnaryOp} {r : V → Hp → VK → Prop} (h : PEs X [a] ρ [t] m ρ') (ho : UnR X (unaryOp op) r) (ok : Ok1 X.K r t u) : PE X (.UnaryOp op a pos) (tJ X.K ρ u m ρ') := by
  obtain ⟨ta, ha, k⟩ := h.one
  refine PE_imp (pe_un ho ha) fun σ H Q q => k σ H _ ?_
  obtain ⟨M, F, own, S, q⟩ := q
  exact ⟨M, F, own, S, fun v H' own' P V1 => ok _ H' v Q P.sl.dom V1 fun y H2 e Vy => q y H2 own' (P.grow e) Vy⟩
theorem PE_cmp {op : CmpOp} {r : R2} (h : PEs X [a, b] ρ [t1, t2] m ρ') (ho : OpR X (compareOp op) r) (hm : behindInMarks op b = false) (ok : Ok2 X.K r t1 t2 u) : PE X (.Compare a [op] [b] pos) (tJ X.K ρ u m ρ') := by
  obtain ⟨ta, tb, ha, hb, k⟩ := h.two
  refine PE_imp (pe_cmpR ho ha hb hm) fun σ H Q q => k σ H _ ?_
  obtain ⟨M, F, own, S, q⟩ := q
  exact ⟨M, F, own, S, fun v z H' own' P V1 V2 => ok _ H' v z Q P.sl.dom V1 V2 fun y H2 e Vy => q y H2 own' (P.grow e) Vy⟩
theorem PT_cmp {op : CmpOp} {r : R2} {c : Bool} (h : PEs X [a, b] ρ [t1, t2] m ρ') (ho : OpR X (compareOp op) r) (hm : behindInMarks op b = false) (ok : Ok2 X.K r t1 t2 (.im (.bl c))) : PT X (.Compare a [op] [b] pos) (tJb X.K ρ c m ρ') := by
  obtain ⟨ta, tb, ha, hb, k⟩ := h.two
  refine PT_imp (pt_cmpR ho ha hb hm) fun σ H Q q => ?_
  show ta σ H fun x H1 => tb σ H1 fun y H2 => r x y H2 fun x H' => ∃ k, x = .bl k ∧ Q k H'
  refine k σ H _ ?_
  obtain ⟨M, F, own, S, q⟩ := q
  refine ⟨M, F, own, S, fun v z H' own' P V1 V2 => ok _ H' v z _ P.sl.dom V1 V2 fun y H2 e Vy => ?_⟩
  have z := Vy.is
  cases z
  exact ⟨c, rfl, q H2 own' (P.grow e)⟩
theorem PE_call1 {x : Str} {id : String} {r : List V → Hp → VK → Prop} (h : PEs X (a :: es) ρ ts m ρ') (hn : noStar (a :: es) = true) (hc : CallR X (.builtin id) r) (hg : Gl X x) (hm : X.mg x = none) (hv : bootBuiltins x = some (.builtin id))
    (h1 : x ≠ "__name__") (h2 : (x == ("__debug__" : Str)) = false) (ok : OkL X.K r ts u) (hpl : (backTo pos (starEach es X.env)).any (·.1) = false) : PE X (.Call (.Name x p) (a :: es) [] pos) (tJ X.K ρ u m ρ') := by
  refine PE_imp (pe_callB hc hg hm hv (h.pa hn) h1 h2 (star_cons hn _) hpl) fun σ H Q q => ?_
  obtain ⟨M, F, own, S, q⟩ := q
  exact ⟨M, F, own, S, fun vs H' own' P V => ok _ H' vs Q P.sl.dom V fun y H2 e Vy => q y H2 own' (P.grow e) Vy⟩
theorem PE_callT {x : Str} {T : String} {r : List V → Hp → VK → Prop} (h : PEs X (a :: es) ρ ts m ρ') (hn : noStar (a :: es) = true) (hc : CallR X (.type T) r) (hg : Gl X x) (hm : X.mg x = none) (hv : bootBuiltins x = some (.type T))
    (h1 : x ≠ "__name__") (h2 : (x == ("__debug__" : Str)) = false) (ok : OkL X.K r ts u) (hpl : (backTo pos (starEach es X.env)).any (·.1) = false) : PE X (.Call (.Name x p) (a :: es) [] pos) (tJ X.K ρ u m ρ') := by
  refine PE_imp (pe_callTy hc hg hm hv (h.pa hn) h1 h2 (star_cons hn _) hpl) fun σ H Q q => ?_
  obtain ⟨M, F, own, S, q⟩ := q
  exact ⟨M, F, own, S, fun vs H' own' P V => ok _ H' vs Q P.sl.dom V fun y H2 e Vy => q y H2 own' (P.grow e) Vy⟩
end
end Em

set_option Elab.async false
set_option linter.all false
set_option maxRecDepth 100000
set_option maxHeartbeats 4000000
/-! EmE: each operation keeps to its tree. -/
namespace Em
open PySem PySem.Spec PyProof.Rows L2

theorem lim_le : LIM ≤ sizeLine := by decide
theorem le_line {n : Nat} (h : n ≤ LIM) : n ≤ sizeLine := Nat.le_trans h lim_le
theorem sv_inj {a b : List Nat} : sv a = sv b ↔ a = b := by
  constructor
  · intro h
    have h1 : (⟨a.toArray⟩ : Str) = ⟨b.toArray⟩ := V.str.inj h
    have h2 : a.toArray = b.toArray := congrArg Str.cps h1
    simpa using congrArg Array.toList h2
  · intro h; rw [h]
theorem sv_len (a : List Nat) : (⟨a.toArray⟩ : Str).length = a.length := by simp [Str.length]
theorem sv_app (a b : List Nat) : (⟨a.toArray⟩ : Str) ++ (⟨b.toArray⟩ : Str) = ⟨(a ++ b).toArray⟩ := by
  show Str.append _ _ = _
  unfold Str.append
  simp

theorem rel_s (z : List Nat) (t : Tok) : RelV (sv z) (.str ⟨z.toArray⟩ t) := ⟨t, rfl⟩
theorem rel_i (i : Int) (t : Tok) : RelV (.int i) (.int i t) := ⟨t, rfl⟩
section
variable {X : Cx}
/-! ### own rules of operators -/
def rCatR : R2 := fun x y H Q => ∃ l b xs zs, x = .ref l ∧ y = .ref b ∧ Rd H l (.lst xs) ∧ Rd H b (.lst zs) ∧ xs.length + zs.length ≤ sizeLine ∧ ∀ p, H p = none → Q (.ref p) (upd H p (.lst (xs ++ zs)))
theorem op_catR : OpR X (binaryOp .Add) rCatR := by
  intro pins s σ H x y v u Q I rx ry h
  obtain ⟨l, b, xs, zs, rfl, rfl, h1, h2, hz, q⟩ := h
  obtain rfl : v = Value.ref l := rx
  obtain rfl : u = Value.ref b := ry
  obtain ⟨_, i1, n1, r1, e1⟩ := h1.ok I.hok
  obtain ⟨_, i2, n2, r2, e2⟩ := h2.ok I.hok
  have l1 := r1.length
  have l2 := r2.length
  refine PySem.P.add_list e1 e2 ?_ (by simp only [List.size_toArray]; omega)
  rw [show i1.toArray ++ i2.toArray = (i1 ++ i2).toArray by simp]
  exact ⟨.ref _, _, I.lnew (t' := s.toks) (r1.append r2) (by rw [List.length_append]; exact hz), rfl, q _ I.fresh⟩
theorem flat_fold : ∀ (n : Nat) (z : List Nat) (acc : Array Nat), (List.replicate n z.toArray).foldl (· ++ ·) acc = acc ++ ((List.replicate n z).flatten).toArray
  | 0, z, acc => by simp
  | n + 1, z, acc => by
    rw [List.replicate_succ, List.foldl_cons, flat_fold n z, List.replicate_succ, List.flatten_cons]
    simp
def rMulS : R2 := fun x y H Q => ∃ (z : List Nat) (n : Int), x = sv z ∧ y = .int n ∧ n ≤ 1000000 ∧ -1000000 ≤ n ∧ z.length * n.toNat ≤ 1000000 ∧ Q (sv (List.replicate n.toNat z).flatten) H
theorem op_mulS : OpR X (binaryOp .Mult) rMulS := by
  intro pins s σ H x y v u Q I rx ry h
  obtain ⟨z, n, rfl, rfl, h1, h2, h3, q⟩ := h
  obtain ⟨t, rfl⟩ : ∃ t, v = Value.str ⟨z.toArray⟩ t := rx
  obtain ⟨tn, rfl⟩ : ∃ t, u = Value.int n t := ry
  have hl := sv_len z
  have hlim : (1000000 : Nat) ≤ sizeLine := by decide
  refine P.mul_str (by simp; omega) (fun a b => ?_) (fun a b => ?_) ?_
  · have hb : (n == 1 || (⟨z.toArray⟩ : Str).length == 0) = false := b
    rw [hl]
    have hn : 1 ≤ n := by omega
    have : (1000000 : Int) ≤ (2 ^ 63 - 1) / n := by
      apply Int.le_ediv_of_mul_le (by omega)
      have : (1000000 : Int) * n ≤ 1000000 * 1000000 := by omega
      omega
    have hz : (z.length : Int) ≤ 1000000 := by
      have : z.length * 1 ≤ z.length * n.toNat := Nat.mul_le_mul_left _ (by omega)
      omega
    omega
  · rw [hl]
    unfold Builtin.Str.tooLong
    simp only [decide_eq_false_iff_not]
    omega
  · by_cases c1 : n < 1
    · rw [if_pos c1]
      have e : n.toNat = 0 := by omega
      rw [e] at q
      refine ⟨by decide, ?_⟩
      exact ⟨_, H, I.tok _, rel_s [] _, q⟩
    · rw [if_neg c1]
      by_cases c2 : (n == 1 || (⟨z.toArray⟩ : Str).length == 0) = true
      · rw [if_pos c2]
        have e : (List.replicate n.toNat z).flatten = z := by
          rw [hl] at c2
          rcases Bool.or_eq_true_iff.mp c2 with c | c
          · have : n = 1 := by simpa using c
            subst this; simp
          · have : z.length = 0 := by simpa using c
            have : z = [] := List.eq_nil_of_length_eq_zero this
            subst this; simp
        rw [e] at q
        exact ⟨_, H, I, rel_s z t, q⟩
      · rw [if_neg c2]
        have e : (List.replicate n.toNat (⟨z.toArray⟩ : Str).cps).foldl (· ++ ·) #[] = ((List.replicate n.toNat z).flatten).toArray := by
          have := flat_fold n.toNat z #[]
          simpa using this
        rw [e]
        refine ⟨?_, ?_⟩
        · rw [sv_len, List.length_flatten, List.map_replicate, List.sum_replicate_nat, Nat.mul_comm]
          omega
        · exact ⟨_, H, I.tok _, rel_s _ _, q⟩
def rPowB : R2 := fun x y H Q => ∃ i j : Int, x = .int i ∧ y = .int j ∧ 0 ≤ j ∧ j ≤ 1000 ∧ i.natAbs < 2 ^ 2000 ∧ Q (.int (i ^ j.toNat)) H
theorem op_powB : OpR X (binaryOp .Pow) rPowB := by
  intro pins s σ H x y v u Q I rx ry h
  obtain ⟨i, j, rfl, rfl, h1, h2, h3, q⟩ := h
  obtain ⟨t, rfl⟩ := rx
  obtain ⟨tn, rfl⟩ := ry
  refine PyProof.Rows.pow_int h1 ?_ ⟨_, H, I.tok _, rel_i _ _, q⟩
  have hb : Builtin.Int.intBits i ≤ 2000 := by
    unfold Builtin.Int.intBits
    split
    · omega
    · rename_i c
      have c : i ≠ 0 := by simpa using c
      have := (Nat.log2_lt (by omega)).mpr h3
      omega
  have : (Builtin.Int.intBits i : Int) * j ≤ 2000 * 1000 := by
    have a : (Builtin.Int.intBits i : Int) * j ≤ 2000 * j := Int.mul_le_mul_of_nonneg_right (by omega) h1
    omega
  exact Int.le_trans this (by decide)
def rMin3 : List V → Hp → VK → Prop := fun xs H Q => ∃ i j k : Int, xs = [.int i, .int j, .int k] ∧ Q (.int (min i (min j k))) H
theorem call_min3 (hc : X.calm = true) : CallR X (.builtin "min") rMin3 := by
  intro pins s σ H xs us Q I r h
  obtain ⟨i, j, k, rfl, q⟩ := h
  cases r with
  | cons r1 r =>
    cases r with
    | cons r2 r =>
      cases r with
      | cons r3 r =>
        cases r
        obtain ⟨t1, rfl⟩ := r1
        obtain ⟨t2, rfl⟩ := r2
        obtain ⟨t3, rfl⟩ := r3
        refine PySem.min_three_ints (I.ok.hd hc) fun h' tk hk => ?_
        refine ⟨_, H, I.kept hk, ?_, q⟩
        by_cases c1 : j < i
        · rw [if_pos c1]
          by_cases c2 : k < j
          · rw [if_pos c2]; exact ⟨t3, by rw [show min i (min j k) = k by omega]⟩
          · rw [if_neg c2]; exact ⟨t2, by rw [show min i (min j k) = j by omega]⟩
        · rw [if_neg c1]
          by_cases c2 : k < i
          · rw [if_pos c2]; exact ⟨t3, by rw [show min i (min j k) = k by omega]⟩
          · rw [if_neg c2]; exact ⟨t1, by rw [show min i (min j k) = i by omega]⟩
end
end Em

set_option Elab.async false
set_option linter.all false
set_option maxRecDepth 100000
set_option maxHeartbeats 4000000
/-! EmF: the operations' readings hold of the trees' operations. -/
namespace Em
open PySem PySem.Spec PyProof.Rows L2

section
variable {K : PySem.W.Frag} {C H : Hp} {v : V}
theorem Is.int_v {a : Int} (h : Is K C v (.int a)) : v = .int a := by cases h; rfl
theorem Is.bl_v {b : Bool} (h : Is K C v (.bl b)) : v = .bl b := by cases h; rfl
theorem Is.str_v {s : List Nat} (h : Is K C v (.str s)) : v = sv s := by cases h; rfl
theorem Is.non_v (h : Is K C v .non) : v = .non := by cases h; rfl
theorem Is.tup_v {ds : List D} (h : Is K C v (.tup ds)) : ∃ a xs, v = .ref a ∧ SqT K C a xs ∧ Iss K C xs ds := by
  cases h with
  | tup h hs => exact ⟨_, _, rfl, h, hs⟩
theorem Is.lst_v {ds : List D} (h : Is K C v (.lst ds)) : ∃ a xs, v = .ref a ∧ Rd C a (.lst xs) ∧ Iss K C xs ds := by
  cases h with
  | lst h hs => exact ⟨_, _, rfl, h, hs⟩
theorem Val.lst_v {t : T} {ds : List D} (h : Val K C H v t) (e : t.lst? = some ds) (c : Sub C H) : ∃ a xs, v = .ref a ∧ Rd H a (.lst xs) ∧ Iss K C xs ds := by
  cases t with
  | im d =>
    cases d with
    | lst ds' =>
      cases e
      obtain ⟨a, xs, rfl, h1, h2⟩ := h.is.lst_v
      exact ⟨a, xs, rfl, rd_sub c h1, h2⟩
    | _ => cases e
  | ls ts =>
    obtain ⟨f, r⟩ := h
    cases r with
    | ls h1 h2 => exact ⟨_, _, rfl, .inl h1, (h2.allIm e).1⟩
theorem Val.seq_v {t : T} {ds : List D} (h : Val K C H v t) (e : t.seq? = some ds) (c : Sub C H) : ∃ a xs, v = .ref a ∧ (SqL K H a xs ∨ SqT K H a xs) ∧ Iss K C xs ds := by
  cases t with
  | im d =>
    cases d with
    | lst ds' =>
      cases e
      obtain ⟨a, xs, rfl, h1, h2⟩ := h.is.lst_v
      exact ⟨a, xs, rfl, .inl (.inl (rd_sub c h1)), h2⟩
    | tup ds' =>
      cases e
      obtain ⟨a, xs, rfl, h1, h2⟩ := h.is.tup_v
      exact ⟨a, xs, rfl, .inr (seqT_sub c h1), h2⟩
    | _ => cases e
  | ls ts =>
    obtain ⟨a, xs, rfl, h1, h2⟩ := h.lst_v (ds := ds) e c
    exact ⟨a, xs, rfl, .inl (.inl h1), h2⟩
/-- a new object -/
theorem new_cut {S : List Addr} {p : Addr} {o : HO} (dm : ∀ a ∈ S, ∃ o, H a = some o) (hp : H p = none) : p ∉ S ∧ Sub H (upd H p o) ∧ cutl S (upd H p o) p = some o ∧ Sub (cutl S H) (cutl S (upd H p o)) := by
  have n : p ∉ S := fun m => by
    obtain ⟨o, e⟩ := dm p m
    rw [hp] at e; cases e
  exact ⟨n, Sub.new hp, by rw [cutl_out n]; exact upd_same, cut_ext (Sub.new hp)⟩
theorem new_lst {S : List Addr} {p : Addr} {xs : List V} {ds : List D} {Q : VK} (dm : ∀ a ∈ S, ∃ o, H a = some o) (hp : H p = none) (h : Iss K (cutl S H) xs ds)
    (q : ∀ (z : V) (H' : Hp), Sub H H' → Val K (cutl S H') H' z (.im (.lst ds)) → Q z H') : Q (.ref p) (upd H p (.lst xs)) := by
  obtain ⟨_, e1, e2, e3⟩ := new_cut (o := .lst xs) dm hp
  exact q _ _ e1 (.im (.lst (.inl e2) (h.mono e3)))
theorem new_tup {S : List Addr} {p : Addr} {xs : List V} {ds : List D} {Q : VK} (dm : ∀ a ∈ S, ∃ o, H a = some o) (hp : H p = none) (h : Iss K (cutl S H) xs ds)
    (q : ∀ (z : V) (H' : Hp), Sub H H' → Val K (cutl S H') H' z (.im (.tup ds)) → Q z H') : Q (.ref p) (upd H p (.tup xs)) := by
  obtain ⟨_, e1, e2, e3⟩ := new_cut (o := .tup xs) dm hp
  exact q _ _ e1 (.im (.tup (.inl (.inl e2)) (h.mono e3)))
end

section
variable {K : PySem.W.Frag}
/-! ### ints -/
theorem ok_I0 {g : Int → Int → Int} {a b : Int} : Ok2 K (rI0 fun i j => .int (g i j)) (.im (.int a)) (.im (.int b)) (.im (.int (g a b))) := fun S H v w Q dm V1 V2 q =>
  ⟨a, b, V1.is.int_v, V2.is.int_v, q _ H (Sub.rf H) (.im (.int _))⟩
theorem ok_B0 {g : Int → Int → Bool} {a b : Int} : Ok2 K (rI0 fun i j => .bl (g i j)) (.im (.int a)) (.im (.int b)) (.im (.bl (g a b))) := fun S H v w Q dm V1 V2 q =>
  ⟨a, b, V1.is.int_v, V2.is.int_v, q _ H (Sub.rf H) (.im (.bl _))⟩
theorem ok_IC {Cd : Int → Int → Prop} {g : Int → Int → Int} {a b : Int} (h : Cd a b) : Ok2 K (rI Cd fun i j => .int (g i j)) (.im (.int a)) (.im (.int b)) (.im (.int (g a b))) := fun S H v w Q dm V1 V2 q =>
  ⟨a, b, V1.is.int_v, V2.is.int_v, h, q _ H (Sub.rf H) (.im (.int _))⟩
theorem ok_neg {a : Int} : Ok1 K (rU fun i => .int (-i)) (.im (.int a)) (.im (.int (-a))) := fun S H v Q dm V1 q => ⟨a, V1.is.int_v, q _ H (Sub.rf H) (.im (.int _))⟩
theorem big_log {a : Int} (h : big a = true) : a.natAbs.log2 < 2000 := by
  have h : a.natAbs < 2 ^ 2000 := of_decide_eq_true h
  by_cases z : a.natAbs = 0
  · rw [z]; decide
  · exact (Nat.log2_lt z).mpr h
def rAddAll (K : PySem.W.Frag) : R2 := fun x y H Q => rI0 (fun i j => .int (i + j)) x y H Q ∨ (∃ i j, x = .str i ∧ y = .str j ∧ i.length + j.length ≤ sizeLine ∧ Q (.str (i ++ j)) H) ∨ rCatA K x y H Q ∨ rCatR x y H Q
theorem op_addAll {X : Cx} : OpR X (binaryOp .Add) (rAddAll X.K) := op_add.or (op_add_str.or (op_catA.or op_catR))
theorem ok_add {x y u : T} (e : opAdd x y = some u) : Ok2 K (rAddAll K) x y u := by
  intro S H v w Q dm V1 V2 q
  unfold opAdd at e
  split at e
  · cases e
    exact .inl ⟨_, _, V1.is.int_v, V2.is.int_v, q _ H (Sub.rf H) (.im (.int _))⟩
  · rename_i a b
    split at e
    · rename_i hl
      cases e
      refine .inr (.inl ⟨_, _, V1.is.str_v, V2.is.str_v, by rw [sv_len, sv_len]; exact le_line hl, ?_⟩)
      rw [sv_app]
      exact q _ H (Sub.rf H) (.im (.str _))
    · cases e
  · rename_i a b
    split at e
    · rename_i hl
      cases e
      obtain ⟨p1, xs, rfl, h1, i1⟩ := V1.is.tup_v
      obtain ⟨p2, ys, rfl, h2, i2⟩ := V2.is.tup_v
      refine .inr (.inr (.inl ⟨p1, p2, xs, ys, rfl, rfl, seqT_sub cut_sub h1, seqT_sub cut_sub h2, by rw [i1.len, i2.len]; exact le_line hl, fun z => ?_, fun z1 z2 => ?_, fun _ _ p hp => ?_⟩))
      · subst z
        cases i1
        exact q _ H (Sub.rf H) (.im (.tup h2 i2))
      · subst z2
        cases i2
        rw [List.append_nil] at q
        exact q _ H (Sub.rf H) (.im (.tup h1 i1))
      · exact new_tup dm hp (i1.app i2) q
    · cases e
  · split at e
    · rename_i a b h1 h2
      split at e
      · rename_i hl
        cases e
        obtain ⟨p1, xs, rfl, r1, i1⟩ := V1.lst_v h1 cut_sub
        obtain ⟨p2, ys, rfl, r2, i2⟩ := V2.lst_v h2 cut_sub
        exact .inr (.inr (.inr ⟨p1, p2, xs, ys, rfl, rfl, r1, r2, by rw [i1.len, i2.len]; exact le_line hl, fun p hp => new_lst dm hp (i1.app i2) q⟩))
      · cases e
    · cases e
def rMulAll : R2 := fun x y H Q => rI CMulW (fun i j => .int (i * j)) x y H Q ∨ rMulS x y H Q
theorem op_mulAll {X : Cx} : OpR X (binaryOp .Mult) rMulAll := op_mulW.or op_mulS
theorem ok_mul {x y u : T} (e : opMul x y = some u) : Ok2 K rMulAll x y u := by
  intro S H v w Q dm V1 V2 q
  unfold opMul at e
  split at e
  · rename_i a b
    split at e
    · rename_i hb
      cases e
      obtain ⟨h1, h2⟩ := Bool.and_eq_true_iff.mp hb
      refine .inl ⟨_, _, V1.is.int_v, V2.is.int_v, ?_, q _ H (Sub.rf H) (.im (.int _))⟩
      have := big_log h1
      have := big_log h2
      show _ + _ < _
      omega
    · cases e
  · rename_i a n
    split at e
    · rename_i hb
      cases e
      have hL : LIM = 1000000 := rfl
      rw [hL] at hb
      exact .inr ⟨a, n, V1.is.str_v, V2.is.int_v, by have := hb.2.1; omega, by have := hb.2.2; omega, hb.1, q _ H (Sub.rf H) (.im (.str _))⟩
    · cases e
  · cases e
theorem ok_fdiv {a b : Int} (h : 0 < b ∧ big b = true) : Ok2 K (rI CDivW fun i j => .int (i / j)) (.im (.int a)) (.im (.int b)) (.im (.int (a / b))) :=
  ok_IC (g := fun i j => i / j) ⟨h.1, Nat.lt_trans (big_log h.2) (by decide)⟩
theorem ok_mod {a b : Int} (h : 0 < b) : Ok2 K (rI (fun _ j => 0 < j) fun i j => .int (i % j)) (.im (.int a)) (.im (.int b)) (.im (.int (a % b))) := ok_IC (Cd := fun _ j => 0 < j) (g := fun i j => i % j) h
theorem ok_pow {a b : Int} (h : 0 ≤ b ∧ b ≤ 1000 ∧ a.natAbs < 2 ^ 2000) : Ok2 K rPowB (.im (.int a)) (.im (.int b)) (.im (.int (a ^ b.toNat))) := fun S H v w Q dm V1 V2 q =>
  ⟨a, b, V1.is.int_v, V2.is.int_v, h.1, h.2.1, h.2.2, q _ H (Sub.rf H) (.im (.int _))⟩

/-! ### == -/
mutual
theorem Is.dp {H : Hp} : ∀ {v : V} {d : D}, Is K H v d → d.py.hasDict = false → Dp K H v d.py
  | _, _, .non, _ => .non
  | _, _, .bl b, _ => .bl b
  | _, _, .int i, _ => .int i
  | _, _, .str s, _ => .str _
  | _, _, .tup h hs, e => .tup h (Iss.dp hs e)
  | _, _, .lst h hs, e => .lst (.inl h) (Iss.dp hs e)
  | _, _, .dct _ _ _ _, e => nomatch e
theorem Iss.dp {H : Hp} : ∀ {vs : List V} {ds : List D}, Iss K H vs ds → PyData.hasDictAll (pys ds) = false → DpAll K H vs (pys ds)
  | _, _, .nil, _ => .nil
  | _, _, .cons h hs, e => .cons (Is.dp h (Bool.or_eq_false_iff.mp e).1) (Iss.dp hs (Bool.or_eq_false_iff.mp e).2)
end
theorem str_beq (a b : List Nat) : ((⟨a.toArray⟩ : Str) == ⟨b.toArray⟩) = (a == b) := by
  rw [Bool.eq_iff_iff]
  simp
mutual
theorem eqv_eqb : ∀ d e : D, PyData.eqv d.py e.py = d.eqb e
  | .non, .non => rfl
  | .non, .bl _ => rfl
  | .non, .int _ => rfl
  | .non, .str _ => rfl
  | .non, .tup _ => rfl
  | .non, .lst _ => rfl
  | .non, .dct _ _ => rfl
  | .dct _ _, .non => rfl
  | .bl _, .non => rfl
  | .bl a, .bl b => rfl
  | .bl a, .int b => rfl
  | .bl _, .str _ => rfl
  | .bl _, .tup _ => rfl
  | .bl _, .lst _ => rfl
  | .bl _, .dct _ _ => rfl
  | .dct _ _, .bl _ => rfl
  | .int _, .non => rfl
  | .int a, .bl b => rfl
  | .int a, .int b => rfl
  | .int _, .str _ => rfl
  | .int _, .tup _ => rfl
  | .int _, .lst _ => rfl
  | .int _, .dct _ _ => rfl
  | .dct _ _, .int _ => rfl
  | .str _, .non => rfl
  | .str _, .bl _ => rfl
  | .str _, .int _ => rfl
  | .str a, .str b => str_beq a b
  | .str _, .tup _ => rfl
  | .str _, .lst _ => rfl
  | .str _, .dct _ _ => rfl
  | .dct _ _, .str _ => rfl
  | .tup _, .non => rfl
  | .tup _, .bl _ => rfl
  | .tup _, .int _ => rfl
  | .tup _, .str _ => rfl
  | .tup a, .tup b => eqvs_eqb a b
  | .tup _, .lst _ => rfl
  | .tup _, .dct _ _ => rfl
  | .dct _ _, .tup _ => rfl
  | .lst _, .non => rfl
  | .lst _, .bl _ => rfl
  | .lst _, .int _ => rfl
  | .lst _, .str _ => rfl
  | .lst _, .tup _ => rfl
  | .lst a, .lst b => eqvs_eqb a b
  | .lst _, .dct _ _ => rfl
  | .dct _ _, .lst _ => rfl
  | .dct _ _, .dct _ _ => rfl
theorem eqvs_eqb : ∀ ds es : List D, PyData.eqvAll (pys ds) (pys es) = eqbs ds es
  | [], [] => rfl
  | [], _ :: _ => rfl
  | _ :: _, [] => rfl
  | d :: ds, e :: es => by
    show (PyData.eqv d.py e.py && PyData.eqvAll (pys ds) (pys es)) = (d.eqb e && eqbs ds es)
    rw [eqv_eqb d e, eqvs_eqb ds es]
end
theorem scal_ok {C : Hp} {v w : V} {x y : D} {b : Bool} (hx : Is K C v x) (hy : Is K C w y) (e : scalEq x y = some b) : scal v w = true ∧ decide (v = w) = b := by
  cases hx <;> cases hy <;> first
    | (cases e; exact ⟨rfl, by first | rfl | decide⟩)
    | (cases e; refine ⟨rfl, ?_⟩; rw [decide_eq_decide]; first | exact ⟨fun h => V.int.inj h, fun h => by rw [h]⟩ | exact ⟨fun h => V.bl.inj h, fun h => by rw [h]⟩ | exact sv_inj)
    | cases e
def rEqAll (K : PySem.W.Frag) : R2 := fun x y H Q => rEq x y H Q ∨ rEqD K x y H Q
def rNeAll (K : PySem.W.Frag) : R2 := fun x y H Q => rNe x y H Q ∨ rNeD K x y H Q
theorem op_eqAll {X : Cx} (hu : X.A.units + 64 < cLine) : OpR X (compareOp .Eq) (rEqAll X.K) := op_eq.or (op_eqD hu)
theorem op_neAll {X : Cx} (hu : X.A.units + 64 < cLine) : OpR X (compareOp .NotEq) (rNeAll X.K) := op_ne.or (op_neD hu)
theorem ok_eq {x y : T} {b : Bool} (e : opEq x.view y.view = some b) : Ok2 K (rEqAll K) x y (.im (.bl b)) := by
  intro S H v w Q dm V1 V2 q
  unfold opEq at e
  split at e
  · rename_i c hc
    cases e
    obtain ⟨h1, h2⟩ := scal_ok (V1.full cut_sub) (V2.full cut_sub) hc
    exact .inl ⟨h1, by rw [h2]; exact q _ H (Sub.rf H) (.im (.bl _))⟩
  · split at e
    · rename_i hs
      cases e
      obtain ⟨s1, s2⟩ := Bool.and_eq_true_iff.mp hs
      obtain ⟨s2, s3⟩ := Bool.and_eq_true_iff.mp s2
      obtain ⟨s3, s4⟩ := Bool.and_eq_true_iff.mp s3
      exact .inr ⟨_, _, (V1.full cut_sub).dp (by simpa [D.noD] using s3), (V2.full cut_sub).dp (by simpa [D.noD] using s4), s1, s2, by rw [eqv_eqb]; exact q _ H (Sub.rf H) (.im (.bl _))⟩
    · cases e
theorem ok_ne {x y : T} {b : Bool} (e : opEq x.view y.view = some b) : Ok2 K (rNeAll K) x y (.im (.bl (!b))) := by
  intro S H v w Q dm V1 V2 q
  unfold opEq at e
  split at e
  · rename_i c hc
    cases e
    obtain ⟨h1, h2⟩ := scal_ok (V1.full cut_sub) (V2.full cut_sub) hc
    exact .inl ⟨h1, by rw [h2]; exact q _ H (Sub.rf H) (.im (.bl _))⟩
  · split at e
    · rename_i hs
      cases e
      obtain ⟨s1, s2⟩ := Bool.and_eq_true_iff.mp hs
      obtain ⟨s2, s3⟩ := Bool.and_eq_true_iff.mp s2
      obtain ⟨s3, s4⟩ := Bool.and_eq_true_iff.mp s3
      exact .inr ⟨_, _, (V1.full cut_sub).dp (by simpa [D.noD] using s3), (V2.full cut_sub).dp (by simpa [D.noD] using s4), s1, s2, by rw [eqv_eqb]; exact q _ H (Sub.rf H) (.im (.bl _))⟩
    · cases e
/-! ### <, in, is None -/
def rLtAll : R2 := fun x y H Q => rI0 (fun i j => .bl (decide (i < j))) x y H Q ∨ ∃ i j, x = .str i ∧ y = .str j ∧ Q (.bl (decide (i.cps.toList < j.cps.toList))) H
theorem op_ltAll {X : Cx} : OpR X (compareOp .Lt) rLtAll := op_lt.or op_lt_str
theorem int2_some {f : Int → Int → Option T} {x y u : T} (e : int2 f x y = some u) : ∃ a b, x = .im (.int a) ∧ y = .im (.int b) ∧ f a b = some u := by
  unfold int2 at e
  split at e
  · exact ⟨_, _, rfl, rfl, e⟩
  · cases e
theorem int1_some {f : Int → Option T} {x u : T} (e : int1 f x = some u) : ∃ a, x = .im (.int a) ∧ f a = some u := by
  unfold int1 at e
  split at e
  · exact ⟨_, rfl, e⟩
  · cases e
theorem int3_some {f : Int → Int → Int → Option T} {x y z u : T} (e : int3 f x y z = some u) : ∃ a b c, x = .im (.int a) ∧ y = .im (.int b) ∧ z = .im (.int c) ∧ f a b c = some u := by
  unfold int3 at e
  split at e
  · exact ⟨_, _, _, rfl, rfl, rfl, e⟩
  · cases e
theorem im1_some {f : D → Option T} {x u : T} (e : im1 f x = some u) : ∃ d, x = .im d ∧ f d = some u := by
  cases x with
  | im d => exact ⟨d, rfl, e⟩
  | ls ts => cases e
theorem im2_some {f : D → D → Option T} {x y u : T} (e : im2 f x y = some u) : ∃ d c, x = .im d ∧ y = .im c ∧ f d c = some u := by
  unfold im2 at e
  split at e
  · exact ⟨_, _, rfl, rfl, e⟩
  · cases e
theorem onL_some {f : List D → Option T} {x u : T} (e : onL f x = some u) : ∃ ds, x.lst? = some ds ∧ f ds = some u := by
  unfold onL at e
  split at e
  · rename_i ds h
    exact ⟨ds, h, e⟩
  · cases e
theorem bind_some {α β : Type} {o : Option α} {f : α → Option β} {b : β} (e : o.bind f = some b) : ∃ a, o = some a ∧ f a = some b := by
  cases o with
  | none => cases e
  | some a => exact ⟨a, rfl, e⟩
theorem ok_lt {x y u : T} (e : opLt x y = some u) : Ok2 K rLtAll x y u := by
  intro S H v w Q dm V1 V2 q
  unfold opLt at e
  split at e
  · cases e
    exact .inr ⟨_, _, V1.is.str_v, V2.is.str_v, q _ H (Sub.rf H) (.im (.bl _))⟩
  · obtain ⟨a, b, rfl, rfl, e⟩ := int2_some e
    cases e
    exact .inl ⟨_, _, V1.is.int_v, V2.is.int_v, q _ H (Sub.rf H) (.im (.bl _))⟩
theorem dec_non {C : Hp} {v : V} {d : D} (h : Is K C v d) : decide (v = .non) = isNon d := by
  cases h <;> first | rfl | exact decide_eq_false (fun e => by cases e)
/-- y in x: a dict, or data of any depth -/
def rInX (K : PySem.W.Frag) (neg : Bool) : R2 := fun y x H Q => (∃ a o, x = .ref a ∧ DGet H a y o ∧ Q (.bl (neg ^^ o.isSome)) H) ∨
  ∃ d ds, Dp K H y d ∧ (Dp K H x (.list ds) ∨ Dp K H x (.tuple ds)) ∧ SeqAt.shaped d = true ∧ PyData.canLayAll0 ds = true ∧ Q (.bl (neg ^^ (ds.any fun z => PyData.eqv z d))) H
theorem op_inX {X : Cx} (hu : X.A.units + 65 < cLine) : OpR X (compareOp .In) (rInX X.K false) := by
  intro pins s σ H y x u v Q I ry rx h
  rcases h with ⟨a, o, rfl, g, q⟩ | ⟨d, ds, hd, he, sd, se, q⟩
  · obtain rfl : v = Value.ref a := rx
    exact d_in (by omega) I g ry fun s3 I3 => ⟨.bl o.isSome, H, I3, rfl, by simpa using q⟩
  · obtain ⟨as, r1⟩ := Dp.reads I d y u hd ry
    have q : Q (.bl (ds.any fun z => PyData.eqv z d)) H := by simpa using q
    rcases he with he | he
    · obtain ⟨bs, r2⟩ := Dp.reads I (.list ds) x v he rx
      exact SeqAt.in_list_reads r2 r1 se (SeqAt.canLay_of_shaped sd) (room_in_shaped sd hu) ⟨.bl _, H, I, rfl, q⟩
    · obtain ⟨bs, r2⟩ := Dp.reads I (.tuple ds) x v he rx
      exact SeqAt.in_tuple_reads r2 r1 se (SeqAt.canLay_of_shaped sd) (room_in_shaped sd hu) ⟨.bl _, H, I, rfl, q⟩
theorem op_ninX {X : Cx} (hu : X.A.units + 65 < cLine) : OpR X (compareOp .NotIn) (rInX X.K true) := by
  intro pins s σ H y x u v Q I ry rx h
  rcases h with ⟨a, o, rfl, g, q⟩ | ⟨d, ds, hd, he, sd, se, q⟩
  · obtain rfl : v = Value.ref a := rx
    exact d_notIn (by omega) I g ry fun s3 I3 => ⟨.bl (!o.isSome), H, I3, rfl, by simpa using q⟩
  · obtain ⟨as, r1⟩ := Dp.reads I d y u hd ry
    have q : Q (.bl (!ds.any fun z => PyData.eqv z d)) H := by simpa using q
    rcases he with he | he
    · obtain ⟨bs, r2⟩ := Dp.reads I (.list ds) x v he rx
      exact SeqAt.notIn_list_reads r2 r1 se (SeqAt.canLay_of_shaped sd) (room_in_shaped sd hu) ⟨.bl _, H, I, rfl, q⟩
    · obtain ⟨bs, r2⟩ := Dp.reads I (.tuple ds) x v he rx
      exact SeqAt.notIn_tuple_reads r2 r1 se (SeqAt.canLay_of_shaped sd) (room_in_shaped sd hu) ⟨.bl _, H, I, rfl, q⟩
def rIn4 (K : PySem.W.Frag) : R2 := fun x y H Q => (∃ (c : Nat) (z : Str), x = .str ⟨#[c]⟩ ∧ y = .str z ∧ Q (.bl (decide (c ∈ z.cps.toList))) H) ∨ rIn K false x y H Q ∨ rInX K false x y H Q
def rNin4 (K : PySem.W.Frag) : R2 := fun x y H Q => (∃ (c : Nat) (z : Str), x = .str ⟨#[c]⟩ ∧ y = .str z ∧ Q (.bl (!decide (c ∈ z.cps.toList))) H) ∨ rIn K true x y H Q ∨ rInX K true x y H Q
theorem op_in4 {X : Cx} (hu : X.A.units + 65 < cLine) : OpR X (compareOp .In) (rIn4 X.K) := op_in_sign.or (op_in_seq.or (op_inX hu))
theorem op_nin4 {X : Cx} (hu : X.A.units + 65 < cLine) : OpR X (compareOp .NotIn) (rNin4 X.K) := op_notIn_sign.or (op_notIn_seq.or (op_ninX hu))
theorem flat_v {C : Hp} {v : V} {d : D} (h : Is K C v d) (f : d.flat = true) : flatV v = true := by cases h <;> first | rfl | cases f
theorem flats_v {C : Hp} : ∀ {vs : List V} {ds : List D}, Iss K C vs ds → ds.all D.flat = true → vs.all flatV = true
  | _, _, .nil, _ => rfl
  | _, _, .cons h hs, f => by
    rw [List.all_cons] at f ⊢
    obtain ⟨f1, f2⟩ := Bool.and_eq_true_iff.mp f
    rw [flat_v h f1, flats_v hs f2]; rfl
theorem eqV_v {C : Hp} {v w : V} {d e : D} (h : Is K C v d) (k : Is K C w e) (f : d.flat = true) (g : e.flat = true) : eqV v w = d.eqb e := by
  cases h <;> cases k <;> first | rfl | exact str_beq _ _ | cases f | cases g
theorem any_v {C : Hp} {w : V} {e : D} (k : Is K C w e) (g : e.flat = true) : ∀ {vs : List V} {ds : List D}, Iss K C vs ds → ds.all D.flat = true → (vs.any fun y => eqV y w) = ds.any fun y => y.eqb e
  | _, _, .nil, _ => rfl
  | _, _, .cons h hs, f => by
    rw [List.all_cons] at f
    obtain ⟨f1, f2⟩ := Bool.and_eq_true_iff.mp f
    rw [List.any_cons, List.any_cons, eqV_v h k f1 g, any_v k g hs f2]
theorem any_eqb (d : D) : ∀ ds : List D, ((pys ds).any fun z => PyData.eqv z d.py) = ds.any fun e => e.eqb d
  | [] => rfl
  | e :: ds => by
    show (PyData.eqv e.py d.py || (pys ds).any fun z => PyData.eqv z d.py) = _
    rw [eqv_eqb e d, any_eqb d ds]; rfl
theorem key_v {C : Hp} {v : V} {d : D} {k : Key} (h : Is K C v d) (e : d.key = some k) : v = kV k := by
  cases h <;> first | (cases e; rfl) | cases e
theorem find_kv {C : Hp} {k : Key} : ∀ {kvs : List (Key × V)} {ks : List Key} {xs : List V} {ds : List D}, kvs.map (·.1) = ks → kvs.map (·.2) = xs → Iss K C xs ds → ((valV kvs k).isSome = (dFind ks ds k).isSome) ∧ ∀ d, dFind ks ds k = some d → ∃ v, valV kvs k = some v ∧ Is K C v d
  | [], _, _, _, rfl, rfl, .nil => ⟨rfl, fun d e => nomatch e⟩
  | (a, v) :: kvs, _, _, _, rfl, rfl, .cons (d := d0) (ds := ds) h hs => by
    obtain ⟨h1, h2⟩ := find_kv (k := k) rfl rfl hs
    by_cases e : a = k
    · have e1 : valV ((a, v) :: kvs) k = some v := valV_pos e
      have e2 : dFind (((a, v) :: kvs).map (·.1)) (d0 :: ds) k = some d0 := by show (if a = k then some d0 else _) = _; rw [if_pos e]
      refine ⟨by rw [e1, e2]; rfl, fun d q => ?_⟩
      rw [e2] at q
      cases q
      exact ⟨v, e1, h⟩
    · have e1 : valV ((a, v) :: kvs) k = valV kvs k := valV_neg e
      have e2 : dFind (((a, v) :: kvs).map (·.1)) (d0 :: ds) k = dFind (kvs.map (·.1)) ds k := by show (if a = k then some d0 else _) = _; rw [if_neg e]
      rw [e1, e2]
      exact ⟨h1, h2⟩
theorem Is.dget {C H : Hp} {y x : V} {d : D} {ks : List Key} {ds : List D} {k : Key} (hy : Is K C y d) (hx : Is K C x (.dct ks ds)) (e : d.key = some k) (c : Sub C H) : ∃ a o, x = .ref a ∧ DGet H a y o ∧ o.isSome = (dFind ks ds k).isSome := by
  cases hx with
  | dct r h1 h2 hs =>
    obtain ⟨z, _⟩ := find_kv (k := k) h1 h2 hs
    exact ⟨_, _, rfl, .inl ⟨_, k, rd_sub c r, key_v hy e, rfl⟩, z⟩
theorem Is.dgetV {C H : Hp} {y x : V} {d v0 : D} {ks : List Key} {ds : List D} {k : Key} (hy : Is K C y d) (hx : Is K C x (.dct ks ds)) (e : d.key = some k) (f : dFind ks ds k = some v0) (c : Sub C H) : ∃ a v, x = .ref a ∧ DGet H a y (some v) ∧ Is K C v v0 := by
  cases hx with
  | dct r h1 h2 hs =>
    obtain ⟨_, z⟩ := find_kv (k := k) h1 h2 hs
    obtain ⟨v, e1, e2⟩ := z _ f
    exact ⟨_, v, rfl, .inl ⟨_, k, rd_sub c r, key_v hy e, e1.symm⟩, e2⟩
theorem ok_in {x y : T} {b : Bool} (e : opIn x y = some b) : Ok2 K (rIn4 K) x y (.im (.bl (b))) := by
  intro S H v w Q dm V1 V2 q
  unfold opIn at e
  split at e
  · cases e
    exact .inl ⟨_, _, V1.is.str_v, V2.is.str_v, q _ H (Sub.rf H) (.im (.bl _))⟩
  · split at e
    · rename_i k hk
      cases e
      obtain ⟨a, o, rfl, g, ho⟩ := V1.is.dget V2.is hk cut_sub
      rw [← ho] at q
      exact .inr (.inr (.inl ⟨a, o, rfl, g, by cases o <;> exact q _ H (Sub.rf H) (.im (.bl _))⟩))
    · cases e
  · split at e
    · rename_i ds hs
      split at e
      · rename_i hf
        cases e
        obtain ⟨f1, f2⟩ := Bool.and_eq_true_iff.mp hf
        obtain ⟨a, xs, rfl, h1, h2⟩ := V2.seq_v hs cut_sub
        refine .inr (.inl ⟨a, xs, rfl, h1, flat_v V1.is f1, flats_v h2 f2, ?_⟩)
        show Q (.bl (inV v xs)) H
        unfold inV
        rw [any_v V1.is f1 h2 f2]
        exact q _ H (Sub.rf H) (.im (.bl _))
      · split at e
        · rename_i d hf
          cases e
          obtain ⟨s1, s2⟩ := Bool.and_eq_true_iff.mp hf
          obtain ⟨s2, s3⟩ := Bool.and_eq_true_iff.mp s2
          obtain ⟨s3, s4⟩ := Bool.and_eq_true_iff.mp s3
          obtain ⟨a, xs, rfl, h1, h2⟩ := V2.seq_v hs cut_sub
          have hd := h2.mono (cut_sub (l := S) (H := H)) |>.dp (by simpa using s4)
          refine .inr (.inr (.inr ⟨_, _, (V1.is.mono cut_sub).dp (by simpa [D.noD] using s3), h1.imp (fun z => .lst z hd) (fun z => .tup z hd), s1, s2, ?_⟩))
          rw [any_eqb]
          have q := q _ H (Sub.rf H) (.im (.bl _))
          simpa using q
        · cases e
    · cases e
  · cases e
theorem ok_nin {x y : T} {b : Bool} (e : opIn x y = some b) : Ok2 K (rNin4 K) x y (.im (.bl (!b))) := by
  intro S H v w Q dm V1 V2 q
  unfold opIn at e
  split at e
  · cases e
    exact .inl ⟨_, _, V1.is.str_v, V2.is.str_v, q _ H (Sub.rf H) (.im (.bl _))⟩
  · split at e
    · rename_i k hk
      cases e
      obtain ⟨a, o, rfl, g, ho⟩ := V1.is.dget V2.is hk cut_sub
      rw [← ho] at q
      exact .inr (.inr (.inl ⟨a, o, rfl, g, by cases o <;> exact q _ H (Sub.rf H) (.im (.bl _))⟩))
    · cases e
  · split at e
    · rename_i ds hs
      split at e
      · rename_i hf
        cases e
        obtain ⟨f1, f2⟩ := Bool.and_eq_true_iff.mp hf
        obtain ⟨a, xs, rfl, h1, h2⟩ := V2.seq_v hs cut_sub
        refine .inr (.inl ⟨a, xs, rfl, h1, flat_v V1.is f1, flats_v h2 f2, ?_⟩)
        show Q (.bl (!inV v xs)) H
        unfold inV
        rw [any_v V1.is f1 h2 f2]
        exact q _ H (Sub.rf H) (.im (.bl _))
      · split at e
        · rename_i d hf
          cases e
          obtain ⟨s1, s2⟩ := Bool.and_eq_true_iff.mp hf
          obtain ⟨s2, s3⟩ := Bool.and_eq_true_iff.mp s2
          obtain ⟨s3, s4⟩ := Bool.and_eq_true_iff.mp s3
          obtain ⟨a, xs, rfl, h1, h2⟩ := V2.seq_v hs cut_sub
          have hd := h2.mono (cut_sub (l := S) (H := H)) |>.dp (by simpa using s4)
          refine .inr (.inr (.inr ⟨_, _, (V1.is.mono cut_sub).dp (by simpa [D.noD] using s3), h1.imp (fun z => .lst z hd) (fun z => .tup z hd), s1, s2, ?_⟩))
          rw [any_eqb]
          have q := q _ H (Sub.rf H) (.im (.bl _))
          simpa using q
        · cases e
    · cases e
  · cases e
/-! ### calls of built-ins -/
theorem Vls.one {C H : Hp} {vs : List V} {t : T} (h : Vls K C H vs [t]) : ∃ v, vs = [v] ∧ Val K C H v t := by
  cases h with
  | cons a b => cases b; exact ⟨_, rfl, a⟩
theorem Vls.two {C H : Hp} {vs : List V} {t u : T} (h : Vls K C H vs [t, u]) : ∃ v w, vs = [v, w] ∧ Val K C H v t ∧ Val K C H w u := by
  cases h with
  | cons a b =>
    obtain ⟨w, rfl, h⟩ := b.one
    exact ⟨_, w, rfl, a, h⟩
theorem Vls.three {C H : Hp} {vs : List V} {t u x : T} (h : Vls K C H vs [t, u, x]) : ∃ v w z, vs = [v, w, z] ∧ Val K C H v t ∧ Val K C H w u ∧ Val K C H z x := by
  cases h with
  | cons a b =>
    obtain ⟨w, z, rfl, h1, h2⟩ := b.two
    exact ⟨_, w, z, rfl, a, h1, h2⟩
theorem ok_len {x : T} {n : Int} (e : opLen x = some n) : OkL K (fun xs H Q => ∃ x n, xs = [x] ∧ LenV K x H n ∧ Q (.int n) H) [x] (.im (.int n)) := by
  intro S H vs Q dm Vh q
  obtain ⟨v, rfl, V1⟩ := Vh.one
  unfold opLen at e
  split at e
  · rename_i s
    split at e
    · rename_i hl
      cases e
      obtain rfl := V1.is.str_v
      refine ⟨_, s.length, rfl, ⟨by rw [sv_len]; exact le_line hl, (sv_len s).symm⟩, q _ H (Sub.rf H) (.im (.int _))⟩
    · cases e
  · cases e
    obtain ⟨a, xs, rfl, h1, h2⟩ := V1.is.lst_v
    refine ⟨_, xs.length, rfl, .inl ⟨xs, .inl (rd_sub cut_sub h1), rfl⟩, ?_⟩
    rw [h2.len]
    exact q _ H (Sub.rf H) (.im (.int _))
  · cases e
    obtain ⟨a, xs, rfl, h1, h2⟩ := V1.is.tup_v
    refine ⟨_, xs.length, rfl, .inr ⟨xs, seqT_sub cut_sub h1, rfl⟩, ?_⟩
    rw [h2.len]
    exact q _ H (Sub.rf H) (.im (.int _))
  · cases e
    obtain ⟨f, r⟩ := V1
    cases r with
    | ls h1 h2 =>
      rename_i a xs fp
      refine ⟨_, xs.length, rfl, .inl ⟨xs, .inl (.inl h1), rfl⟩, ?_⟩
      rw [h2.len]
      exact q _ H (Sub.rf H) (.im (.int _))
  · cases e
theorem ok_int {x u : T} (e : opInt x = some u) : OkL K (fun xs H Q => (∃ i, xs = [.int i] ∧ Q (.int i) H) ∨ ∃ k, xs = [.bl k] ∧ Q (.int (if k then 1 else 0)) H) [x] u := by
  intro S H vs Q dm Vh q
  obtain ⟨v, rfl, V1⟩ := Vh.one
  unfold opInt at e
  split at e
  · cases e
    obtain rfl := V1.is.int_v
    exact .inl ⟨_, rfl, q _ H (Sub.rf H) (.im (.int _))⟩
  · cases e
    obtain rfl := V1.is.bl_v
    exact .inr ⟨_, rfl, q _ H (Sub.rf H) (.im (.int _))⟩
  · cases e
theorem ok_abs {a : Int} : OkL K (fun xs H Q => ∃ i, xs = [.int i] ∧ Q (.int (if i < 0 then -i else i)) H) [.im (.int a)] (.im (.int (if a < 0 then -a else a))) := by
  intro S H vs Q dm Vh q
  obtain ⟨v, rfl, V1⟩ := Vh.one
  obtain rfl := V1.is.int_v
  exact ⟨_, rfl, q _ H (Sub.rf H) (.im (.int _))⟩
theorem ok_two {g : Int → Int → Int} {a b : Int} : OkL K (fun xs H Q => ∃ i j, xs = [.int i, .int j] ∧ Q (.int (g i j)) H) [.im (.int a), .im (.int b)] (.im (.int (g a b))) := by
  intro S H vs Q dm Vh q
  obtain ⟨v, w, rfl, V1, V2⟩ := Vh.two
  obtain rfl := V1.is.int_v
  obtain rfl := V2.is.int_v
  exact ⟨_, _, rfl, q _ H (Sub.rf H) (.im (.int _))⟩
theorem ok_min3 {a b c : Int} : OkL K rMin3 [.im (.int a), .im (.int b), .im (.int c)] (.im (.int (min a (min b c)))) := by
  intro S H vs Q dm Vh q
  obtain ⟨v, w, z, rfl, V1, V2, V3⟩ := Vh.three
  obtain rfl := V1.is.int_v
  obtain rfl := V2.is.int_v
  obtain rfl := V3.is.int_v
  exact ⟨_, _, _, rfl, q _ H (Sub.rf H) (.im (.int _))⟩
theorem ints_v {C : Hp} : ∀ {xs : List V} {ds : List D} {ns : List Int}, Iss K C xs ds → D.ints ds = some ns → xs = ns.map V.int
  | _, _, ns, .nil, e => by cases e; rfl
  | _, _, ns, .cons (ds := ds) h hs, e => by
    cases h with
    | int i =>
      unfold D.ints at e
      cases q : D.ints ds with
      | none => rw [q] at e; cases e
      | some ms =>
        rw [q] at e
        cases e
        rw [ints_v hs q]; rfl
    | _ => cases e
theorem bls_v {C : Hp} : ∀ {xs : List V} {ds : List D} {ns : List Bool}, Iss K C xs ds → D.bls ds = some ns → xs = ns.map V.bl
  | _, _, ns, .nil, e => by cases e; rfl
  | _, _, ns, .cons (ds := ds) h hs, e => by
    cases h with
    | bl i =>
      unfold D.bls at e
      cases q : D.bls ds with
      | none => rw [q] at e; cases e
      | some ms =>
        rw [q] at e
        cases e
        rw [bls_v hs q]; rfl
    | _ => cases e
theorem strs_v {C : Hp} : ∀ {xs : List V} {ds : List D} {ss : List (List Nat)}, Iss K C xs ds → D.strs ds = some ss → xs = (ss.map fun s => (⟨s.toArray⟩ : Str)).map V.str
  | _, _, ns, .nil, e => by cases e; rfl
  | _, _, ns, .cons (ds := ds) h hs, e => by
    cases h with
    | str s =>
      unfold D.strs at e
      cases q : D.strs ds with
      | none => rw [q] at e; cases e
      | some ms =>
        rw [q] at e
        cases e
        rw [strs_v hs q]; rfl
    | _ => cases e
theorem ok_sum {x : T} {ds : List D} {ns : List Int} (h : x.lst? = some ds) (e : D.ints ds = some ns) : OkL K (rSum K) [x] (.im (.int ns.sum)) := by
  intro S H vs Q dm Vh q
  obtain ⟨v, rfl, V1⟩ := Vh.one
  obtain ⟨a, xs, rfl, h1, h2⟩ := V1.lst_v h cut_sub
  refine ⟨a, ns, rfl, .inl ?_, q _ H (Sub.rf H) (.im (.int _))⟩
  rw [← ints_v h2 e]; exact h1
theorem ok_all {x : T} {ds : List D} {ns : List Bool} (h : x.lst? = some ds) (e : D.bls ds = some ns) : OkL K (rAll K) [x] (.im (.bl (ns.all id))) := by
  intro S H vs Q dm Vh q
  obtain ⟨v, rfl, V1⟩ := Vh.one
  obtain ⟨a, xs, rfl, h1, h2⟩ := V1.lst_v h cut_sub
  refine ⟨a, ns, rfl, .inl ?_, q _ H (Sub.rf H) (.im (.bl _))⟩
  rw [← bls_v h2 e]; exact h1
theorem ok_any {x : T} {ds : List D} {ns : List Bool} (h : x.lst? = some ds) (e : D.bls ds = some ns) : OkL K (rAny K) [x] (.im (.bl (ns.any id))) := by
  intro S H vs Q dm Vh q
  obtain ⟨v, rfl, V1⟩ := Vh.one
  obtain ⟨a, xs, rfl, h1, h2⟩ := V1.lst_v h cut_sub
  refine ⟨a, ns, rfl, .inl ?_, q _ H (Sub.rf H) (.im (.bl _))⟩
  rw [← bls_v h2 e]; exact h1
end
end Em

set_option Elab.async false
set_option linter.all false
set_option maxRecDepth 100000
set_option maxHeartbeats 4000000
/-! EmG: further operations: of texts, rows, repr, isinstance, subscripts, displays. -/
namespace Em
open PySem PySem.Spec PyProof.Rows L2

/-- the signs of a text as texts -/
def signs (s : List Nat) : List D := s.map fun c => .str [c]
theorem signs_is {K : PySem.W.Frag} {C : Hp} : ∀ s : List Nat, Iss K C (s.map fun c => sv [c]) (s.map fun c => D.str [c])
  | [] => .nil
  | c :: s => .cons (.str [c]) (signs_is s)
theorem vals_signs0 : ∀ (s : List Nat) (l : List Value), l.length = s.length → (∀ (j : Nat) (v : Value), l[j]? = some v → ∃ (c : Nat) (u : Tok), s[j]? = some c ∧ v = Value.str ⟨#[c]⟩ u) → Vals (s.map fun c => sv [c]) l
  | [], [], _, _ => .nil
  | [], _ :: _, h1, _ => by cases h1
  | _ :: _, [], h1, _ => by cases h1
  | c :: s, v :: l, h1, h2 => by
    obtain ⟨c', u, a, rfl⟩ := h2 0 v rfl
    have a : c = c' := Option.some.inj a
    subst a
    refine .cons ⟨u, rfl⟩ (vals_signs0 s l (Nat.succ.inj h1) fun j w e => ?_)
    obtain ⟨c', u', a, b⟩ := h2 (j + 1) w (by simpa using e)
    exact ⟨c', u', by simpa using a, b⟩
theorem vals_signs {s : List Nat} {acc : Array Value} (h : ItemsOf (SignAt ⟨s.toArray⟩) acc s.length) : Vals (s.map fun c => sv [c]) acc.toList := by
  obtain ⟨h1, h2⟩ := id h
  obtain ⟨l⟩ := acc
  have h1 : l.length = s.length := h1
  have h2 : ∀ j v, l[j]? = some v → ∃ c u, s[j]? = some c ∧ v = Value.str ⟨#[c]⟩ u := fun j v e => by
    obtain ⟨c, u, a, b⟩ := h2 j v (by simpa using e)
    exact ⟨c, u, by simpa using a, b⟩
  show Vals _ l
  clear h
  exact vals_signs0 s l h1 h2
section
variable {X : Cx}
def rTupS : List V → Hp → VK → Prop := fun xs H Q => ∃ s : List Nat, xs = [sv s] ∧ s.length ≤ sizeLine ∧ ∀ p, H p = none → Q (.ref p) (upd H p (.tup (s.map fun c => sv [c])))
theorem call_tupS (hc : X.calm = true) : CallR X (.type "tuple") rTupS := by
  intro pins s σ H xs us Q I r h
  obtain ⟨z, rfl, hz, q⟩ := h
  cases r with
  | cons r1 r2 =>
    cases r2
    obtain ⟨t, rfl⟩ : ∃ t, _ = Value.str ⟨z.toArray⟩ t := r1
    refine PySem.call_tuple_str (I.ok.hd hc) ⟨z.toArray⟩ t (fun h' tk acc hk hi => ?_) (by simpa using hz)
    have I1 : Inv X pins σ H { s with heap := h', toks := tk } := I.kept hk
    have fr : H h'.objs.size = none := I1.fresh
    have hv : Vals (z.map fun c => sv [c]) acc.toList := vals_signs (by simpa using hi)
    refine ⟨.ref h'.objs.size, upd H h'.objs.size (.tup (z.map fun c => sv [c])), I1.laid (t' := tk) (fun b u e => Heap.get?_push_of_some _ e) (Nat.le_refl _) ?_, rfl, q _ fr⟩
    exact ⟨by simpa using hz, acc.toList, hv, ⟨_, Heap.get?_push_size _ rfl, rfl, 0, by simp⟩⟩
def rLstS : List V → Hp → VK → Prop := fun xs H Q => ∃ s : List Nat, xs = [sv s] ∧ s.length ≤ sizeLine ∧ ∀ p, H p = none → Q (.ref p) (upd H p (.lst (s.map fun c => sv [c])))
theorem call_lstS (hc : X.calm = true) : CallR X (.type "list") rLstS := by
  intro pins s σ H xs us Q I r h
  obtain ⟨z, rfl, hz, q⟩ := h
  cases r with
  | cons r1 r2 =>
    cases r2
    obtain ⟨t, rfl⟩ : ∃ t, _ = Value.str ⟨z.toArray⟩ t := r1
    refine PySem.call_list_str (I.ok.hd hc) ⟨z.toArray⟩ t (fun h' tk acc c' hk hs hi => ?_) (by simpa using hz)
    have fr : H s.heap.objs.size = none := I.fresh
    have hv : Vals (z.map fun c => sv [c]) acc.toList := vals_signs (by simpa using hi)
    refine ⟨.ref s.heap.objs.size, upd H s.heap.objs.size (.lst (z.map fun c => sv [c])), I.laid (t' := tk) hk (Nat.le_refl _) ?_, rfl, q _ fr⟩
    exact ⟨by simpa using hz, acc.toList, c', hv, by rw [hs]⟩
theorem rev_cps (z : List Nat) (u : Tok) : (Txt.sliceBy ⟨z.toArray⟩ none none (-1, u)) = ⟨z.reverse.toArray⟩ := by
  have h := PyProof.Rows.step_rev_list ⟨z.toArray⟩ u
  have e : (List.range (⟨z.toArray⟩ : Str).length).map (fun k => (⟨z.toArray⟩ : Str).cps.getD ((⟨z.toArray⟩ : Str).length - 1 - k) 0) = z.reverse := by
    apply List.ext_getElem
    · simp [sv_len]
    · intro i h1 h2
      simp only [List.length_map, List.length_range, sv_len] at h1
      simp only [List.getElem_map, List.getElem_range, sv_len, List.getElem_reverse]
      have : z.length - 1 - i < z.length := by omega
      simp [Array.getD, this]
  rw [e] at h
  have : (Txt.sliceBy ⟨z.toArray⟩ none none (-1, u)).cps = z.reverse.toArray := by rw [← h]
  rw [← this]
def rRev (K : PySem.W.Frag) : V → Hp → VK → Prop := fun x H Q => (∃ z : List Nat, x = sv z ∧ z.length ≤ sizeLine ∧ Q (sv z.reverse) H) ∨ (∃ a xs, x = .ref a ∧ SqL K H a xs ∧ ∀ p, H p = none → Q (.ref p) (upd H p (.lst xs.reverse)))
/-- x[::-1] of a text or a list -/
theorem pe_rev {e : Expr} {te : TE} {k : Nat} {p1 p2 p3 pos : Pos} (he : PE X e te) : PE X (.Subscript e (.Slice none none (some (.UnaryOp .USub (.Constant (.int 1) k p1) p2)) p3) pos) (fun σ H Q => te σ H fun x H1 => rRev X.K x H1 Q) := by
  refine ⟨fun pins st σ H Q I h => Subscript_ (thn (he.run pins st σ H _ I h) fun v sA ⟨x, HA, IA, rA, qA⟩ => ?_)⟩
  have step : PO X (some (.UnaryOp .USub (.Constant (.int 1) k p1) p2)) (tPart (tUn (rU fun i => .int (-i)) (tC (.int 1)))) := po_some (pe_un un_neg pe_int)
  refine wpAny_Slice (thn (po_none.run pins sA σ HA (fun o G => o = none ∧ G = HA) IA ⟨rfl, rfl⟩) fun va sB ⟨oa, HB, IB, pa, ea, eB⟩ => ?_)
  cases ea; cases eB
  refine thn (po_none.run pins sB σ HA (fun o G => o = none ∧ G = HA) IB ⟨rfl, rfl⟩) fun vb sC ⟨ob, HC, IC, pb, eb, eC⟩ => ?_
  cases eb; cases eC
  refine thn (step.run pins sC σ HA (fun o G => o = some (-1) ∧ G = HA) IC ⟨1, rfl, -1, rfl, rfl, rfl⟩) fun vc sD ⟨oc, HD, ID, pc, ec, eD⟩ => ?_
  cases ec; cases eD
  have IE : Inv X pins σ HA { sD with heap := sD.heap.push { cls := .type "slice", data := .fields #[va, vb, vc] } } := ID.kept (t' := sD.toks) fun b o z => Heap.get?_push_of_some _ z
  rcases qA with ⟨z, rfl, hz, q⟩ | ⟨a, xs, rfl, hx, q⟩
  · obtain ⟨t, rfl⟩ : ∃ t, v = Value.str ⟨z.toArray⟩ t := rA
    cases pa
    cases pb
    obtain ⟨tk, rfl⟩ : ∃ tk, vc = Value.int (-1) tk := by
      cases pc with
      | int i t => exact ⟨t, rfl⟩
    refine tail_any (ops := [.ref sD.heap.objs.size, .str ⟨z.toArray⟩ t]) (typeIs_str _ _ _) F.slot_str_getitem.lookup ?_ (by with_unfolding_all rfl)
    refine wpAny_getItem_str_slice (l := none) (u := none) (st := some (-1, tk)) ⟨_, Heap.get?_push_size _ rfl, rfl, rfl⟩ rfl ?_
    have e1 := rev_cps z tk
    unfold sliceMade
    have c1 : ¬ ((((some ((-1 : Int), tk)).map (·.1)).getD 1 == 1 && (slicePicked ⟨z.toArray⟩ none none (some (-1, tk))).length == (⟨z.toArray⟩ : Str).length) = true) := by
      have : ((((some ((-1 : Int), tk)).map (·.1)).getD 1 == 1)) = false := rfl
      rw [this]; simp
    rw [if_neg c1]
    unfold Txt.sliceBy at e1
    rw [if_neg c1] at e1
    rw [e1]
    exact ⟨by rw [sv_len, List.length_reverse]; exact hz, sv z.reverse, HA, IE.tok _, ⟨_, rfl⟩, q⟩
  · obtain rfl : v = Value.ref a := rA
    obtain ⟨its, r, pl, hl⟩ := IE.list hx
    have hn := r.length
    refine tail_any (ops := [.ref a, .ref sD.heap.objs.size]) pl.isList.typeIs PySem.slot_list_getitem.lookup ?_ (by with_unfolding_all rfl)
    refine wpAny_getItem_list_slice pl.isList (Heap.IsSliceOf.new _ va vb vc) pa pb pc (by decide) ?_ (by rw [List.size_toArray]; omega)
    rw [PySem.W.krv_pick]
    have fr : HA (sD.heap.push { cls := .type "slice", data := .fields #[va, vb, vc] }).objs.size = none := IE.fresh
    refine ⟨.ref _, _, IE.laid (t' := sD.toks) (o := .lst xs.reverse) (fun b o z => Heap.get?_push_of_some _ z) (Nat.le_refl _) ?_, rfl, q _ fr⟩
    exact ⟨by rw [List.length_reverse]; exact hl, _, 0, r.reverse, Heap.get?_push_size _ rfl⟩
end
section
variable {K : PySem.W.Frag}
theorem ok_rev {x u : T} (e : opRev x = some u) : Ok1 K (rRev K) x u := by
  intro S H v Q dm V1 q
  unfold opRev at e
  split at e
  · split at e
    · rename_i z hz
      cases e
      exact .inl ⟨_, V1.is.str_v, le_line hz, q _ H (Sub.rf H) (.im (.str _))⟩
    · cases e
  · obtain ⟨ds, h1, e⟩ := onL_some e
    split at e
    · cases e
      obtain ⟨a, xs, rfl, r, i⟩ := V1.lst_v h1 cut_sub
      exact .inr ⟨a, xs, rfl, .inl r, fun p hp => new_lst dm hp i.rev q⟩
    · cases e
def rTuple (K : PySem.W.Frag) : List V → Hp → VK → Prop := fun xs H Q =>
  (∃ p ys, xs = [.ref p] ∧ ((SqL K H p ys ∧ ∀ l, H l = none → Q (.ref l) (upd H l (.tup ys))) ∨ (SqT K H p ys ∧ Q (.ref p) H))) ∨ rTupS xs H Q
theorem call_tuple {X : Cx} (hc : X.calm = true) : CallR X (.type "tuple") (rTuple X.K) := call_tuple_of.or (call_tupS hc)
theorem ok_tuple {x u : T} (e : opTuple x = some u) : OkL K (rTuple K) [x] u := by
  intro S H vs Q dm Vh q
  obtain ⟨v, rfl, V1⟩ := Vh.one
  unfold opTuple at e
  split at e
  · cases e
    obtain ⟨a, xs, rfl, h1, h2⟩ := V1.is.tup_v
    exact .inl ⟨a, xs, rfl, .inr ⟨seqT_sub cut_sub h1, q _ H (Sub.rf H) (.im (.tup h1 h2))⟩⟩
  · split at e
    · rename_i s hs
      cases e
      obtain rfl := V1.is.str_v
      exact .inr ⟨_, rfl, le_line hs, fun p hp => new_tup dm hp (signs_is _) q⟩
    · cases e
  · obtain ⟨ds, h1, e⟩ := onL_some e
    cases e
    obtain ⟨a, xs, rfl, r, i⟩ := V1.lst_v h1 cut_sub
    exact .inl ⟨a, xs, rfl, .inl ⟨.inl r, fun p hp => new_tup dm hp i q⟩⟩
/-! ### repr -/
def rRepr (K : PySem.W.Frag) : List V → Hp → VK → Prop := fun xs H Q => ∃ (v : V) (d : D), xs = [v] ∧ Is K H v d ∧ d.py.hasDict = false ∧ d.py.showable = true ∧ d.py.depth ≤ 60 ∧ d.py.shown.length ≤ LIM ∧ Q (.str d.py.shown) H
theorem call_repr {X : Cx} (hg : X.A.guards = some []) (hu : X.A.units + 64 < cLine) : CallR X (.builtin "repr") (rRepr X.K) := by
  intro pins s σ H xs us Q I r h
  obtain ⟨v, d, rfl, hi, h0, h1, h2, h3, q⟩ := h
  cases r with
  | cons r1 r2 =>
    cases r2
    have hz := le_line h3
    have hdp := hi.dp h0
    have seq : ∀ (a : Addr) (d' : D), d = d' → v = .ref a → wpAny (model X.prog X.w) X.A (call (.builtin "repr") [Value.ref a]) (EP X pins σ Q) X.xe s := fun a d' ed ev => by
      obtain ⟨as, rd⟩ := Dp.reads I d.py v (Value.ref a) hdp (by rw [ev]; exact rfl)
      refine PySem.repr_of_reads' rd h1 (PySem.PyData.noDict_hsm h0) hg (by omega) (fun _ _ e => e) (fun h' u tk hk => ?_) hz
      exact ⟨V.str _, H, I.kept hk, ⟨_, rfl⟩, q⟩
    cases hi with
    | non =>
      obtain rfl : _ = Value.none := r1
      exact PySem.P.repr_of_none ⟨V.str _, H, I.tok _, ⟨_, rfl⟩, q⟩
    | bl b =>
      obtain rfl : _ = Value.bool b := r1
      exact PySem.P.repr_of_bool ⟨V.str _, H, I.tok _, ⟨_, rfl⟩, q⟩
    | int i =>
      obtain ⟨t, rfl⟩ := r1
      exact PySem.P.repr_of_int (of_decide_eq_true h1) ⟨V.str _, H, I.tok _, ⟨_, rfl⟩, q⟩
    | str z =>
      obtain ⟨t, rfl⟩ : ∃ t, _ = Value.str ⟨z.toArray⟩ t := r1
      exact PySem.P.repr_of_str ⟨V.str _, H, I.tok _, ⟨_, rfl⟩, q⟩ hz
    | tup hs hd =>
      obtain rfl : _ = Value.ref _ := r1
      exact seq _ _ rfl rfl
    | lst hs hd =>
      obtain rfl : _ = Value.ref _ := r1
      exact seq _ _ rfl rfl
    | dct _ _ _ _ => cases h0
theorem sv_str (z : Str) : V.str z = sv z.cps.toList := by
  unfold sv
  rfl
theorem ok_repr {d : D} {u : T} (e : opShown d = some u) : OkL K (rRepr K) [.im d] u := by
  intro S H vs Q dm Vh q
  obtain ⟨v, rfl, V1⟩ := Vh.one
  unfold opShown at e
  split at e
  · rename_i h
    cases e
    obtain ⟨h, h3⟩ := Bool.and_eq_true_iff.mp h
    obtain ⟨h1, h2⟩ := Bool.and_eq_true_iff.mp h
    obtain ⟨h0, h1⟩ := Bool.and_eq_true_iff.mp h1
    refine ⟨v, d, rfl, V1.is.mono cut_sub, by simpa [D.noD] using h0, h1, of_decide_eq_true h2, of_decide_eq_true h3, ?_⟩
    rw [sv_str]
    exact q _ H (Sub.rf H) (.im (.str _))
  · cases e
/-! ### isinstance -/
def Ty.nm : Ty → String
  | .int => "int"
  | .bool => "bool"
  | .str => "str"
  | .tuple => "tuple"
  | .list => "list"
  | .non => "NoneType"
  | .dict => "dict"
def D.tag : D → Ty
  | .non => .non
  | .bl _ => .bool
  | .int _ => .int
  | .str _ => .str
  | .tup _ => .tuple
  | .lst _ => .list
  | .dct _ _ => .dict
def Ty.sub : Ty → Ty → Bool
  | .int, .bool => true
  | a, b => decide (a = b)
theorem ty_kit (a b : Ty) : kitB a.nm b.nm = some (b.sub a) := by
  cases a <;> cases b <;> decide +kernel
theorem ty_has (t : Ty) (d : D) : t.has d = t.sub d.tag := by
  cases t <;> cases d <;> rfl
theorem tyx_of {H : Hp} {v : V} {d : D} (h : Is K H v d) : TyX K H v (.type d.tag.nm) := by
  cases h with
  | non => exact .base .non
  | bl b => exact .base (.bl b)
  | int i => exact .base (.int i)
  | str s => exact .base (.str _)
  | tup h hs =>
    rcases h with (h | ⟨o, h⟩) | ⟨o, its, n, h1, h2, h3⟩
    · exact .base (.tup h)
    · exact .fTuple h
    · exact .kTuple h1 h2
  | lst h hs =>
    rcases h with h | ⟨o, h⟩
    · exact .base (.lst h)
    · exact .base (.frz h)
  | dct h _ _ hs =>
    rcases h with h | ⟨o, h⟩
    · exact .base (.dK h)
    · exact .fDict h
/-! ### subscripts -/
theorem atI_map {α β : Type} (f : α → β) {xs : List α} {i : Int} {a : α} (h : atI xs i = some a) : atI (xs.map f) i = some (f a) := by
  unfold atI at h ⊢
  rw [List.length_map]
  cases e : ixN xs.length i with
  | none => rw [e] at h; cases h
  | some j =>
    rw [e] at h
    have h : xs[j]? = some a := h
    show (xs.map f)[j]? = some (f a)
    rw [List.getElem?_map, h]; rfl
theorem Iss.atI {C : Hp} {xs : List V} {ds : List D} {i : Int} {d : D} (h : Iss K C xs ds) (e : atI ds i = some d) : ∃ v, L2.atI xs i = some v ∧ Is K C v d := by
  unfold L2.atI at e ⊢
  rw [h.len]
  cases q : ixN ds.length i with
  | none => rw [q] at e; cases e
  | some j =>
    rw [q] at e
    exact h.get (i := j) e
theorem Rps.get {C H : Hp} {xs : List V} {ts : List T} {f : List Addr} {j : Nat} {t : T} (h : Rps K C H xs ts f) (e : ts[j]? = some t) : ∃ v, xs[j]? = some v ∧ Val K C H v t := by
  obtain ⟨v, pre, g, post, h1, h2, _, _⟩ := h.focus e
  exact ⟨v, h1, g, h2⟩
theorem Rps.atI {C H : Hp} {xs : List V} {ts : List T} {f : List Addr} {i : Int} {t : T} (h : Rps K C H xs ts f) (e : atI ts i = some t) : ∃ v, L2.atI xs i = some v ∧ Val K C H v t := by
  unfold L2.atI at e ⊢
  rw [h.len]
  cases q : ixN ts.length i with
  | none => rw [q] at e; cases e
  | some j =>
    rw [q] at e
    exact h.get (j := j) e
theorem ok_ix {x u : T} {i : Int} (e : opIx x i = some u) : Ok2 K (rIx K) x (.im (.int i)) u := by
  intro S H v w Q dm V1 V2 q
  obtain rfl := V2.is.int_v
  unfold opIx at e
  split at e
  · rename_i s
    split at e
    · rename_i hs
      split at e
      · rename_i c hc
        cases e
        obtain rfl := V1.is.str_v
        exact .inr (.inr ⟨_, i, c, rfl, rfl, by rw [sv_len]; exact le_line hs, hc, q _ H (Sub.rf H) (.im (.str [c]))⟩)
      · cases e
    · cases e
  · split at e
    · rename_i d hd
      cases e
      obtain ⟨a, xs, rfl, h1, h2⟩ := V1.is.tup_v
      obtain ⟨y, e1, e2⟩ := h2.atI hd
      exact .inr (.inl ⟨a, xs, i, y, rfl, rfl, seqT_sub cut_sub h1, e1, q _ H (Sub.rf H) (.im e2)⟩)
    · cases e
  · split at e
    · rename_i d hd
      cases e
      obtain ⟨a, xs, rfl, h1, h2⟩ := V1.is.lst_v
      obtain ⟨y, e1, e2⟩ := h2.atI hd
      exact .inl ⟨a, xs, i, y, rfl, rfl, .inl (rd_sub cut_sub h1), e1, q _ H (Sub.rf H) (.im e2)⟩
    · cases e
  · obtain ⟨f, r⟩ := V1
    cases r with
    | ls h1 h2 =>
      obtain ⟨y, e1, e2⟩ := h2.atI e
      exact .inl ⟨_, _, i, y, rfl, rfl, .inl (.inl h1), e1, q _ H (Sub.rf H) e2⟩
  · cases e
def rIxA (X : Cx) : R2 := fun x y H Q => rIx X.K x y H Q ∨ ∃ a v, x = .ref a ∧ DGet H a y (some v) ∧ Q v H
theorem ok_ixA {X : Cx} {x y u : T} (e : opIxA x y = some u) : Ok2 X.K (rIxA X) x y u := by
  intro S H v w Q dm V1 V2 q
  unfold opIxA at e
  split at e
  · split at e
    · rename_i k hk
      split at e
      · rename_i d hd
        cases e
        obtain ⟨a, z, rfl, g, i⟩ := V2.is.dgetV V1.is hk hd cut_sub
        exact .inr ⟨a, z, rfl, g, q _ H (Sub.rf H) (.im i)⟩
      · cases e
    · cases e
  · exact .inl (ok_ix e S H v w Q dm V1 V2 q)
  · cases e
/-! ### slices -/
def rSlc (K : PySem.W.Frag) : V → Option Int → Option Int → Hp → VK → Prop := fun x lo hi H Q => rSlS x lo hi H Q ∨ rSlA K x lo hi H Q ∨ rSlL K x lo hi H Q
theorem sl_all {X : Cx} : SlR X (rSlc X.K) := sl_str.or (sl_tupA.or sl_list)
theorem Iss.cut {C : Hp} {xs : List V} {ds : List D} (h : Iss K C xs ds) (lo hi : Option Int) : Iss K C (cutV xs lo hi) (cutA ds lo hi) := by
  unfold cutV cutA
  rw [h.len]
  exact (h.drop _).take _
theorem ok_sl {x u : T} {lo hi : Option Int} (e : opSl x lo hi = some u) (S : List Addr) (H : Hp) (v : V) (Q : VK) (dm : ∀ a ∈ S, ∃ o, H a = some o) (V1 : Val K (cutl S H) H v x)
    (q : ∀ (z : V) (H' : Hp), Sub H H' → Val K (cutl S H') H' z u → Q z H') : rSlc K v lo hi H Q := by
  unfold opSl at e
  split at e
  · rename_i s
    split at e
    · rename_i hs
      cases e
      obtain rfl := V1.is.str_v
      refine .inl ⟨_, rfl, by rw [sv_len]; exact le_line hs, ?_⟩
      have : V.str (cutS ⟨s.toArray⟩ lo hi) = sv (cutA s lo hi) := by
        unfold cutS sv cutA
        rw [sv_len]
      rw [this]
      exact q _ H (Sub.rf H) (.im (.str _))
    · cases e
  · rename_i ds
    split at e
    · rename_i hs
      cases e
      obtain ⟨a, xs, rfl, h1, h2⟩ := V1.is.tup_v
      refine .inr (.inl ⟨a, xs, rfl, seqT_sub cut_sub h1, fun z => ?_, fun _ p hp => new_tup dm hp (h2.cut lo hi) q⟩)
      have e1 : cutA ds lo hi = ds := by
        unfold cutA
        rw [h2.len] at z
        rw [z.1, z.2, List.drop_zero, Nat.sub_zero, List.take_length]
      rw [e1] at q
      exact q _ H (Sub.rf H) (.im (.tup h1 h2))
    · cases e
  · rename_i ds
    split at e
    · rename_i hs
      cases e
      obtain ⟨a, xs, rfl, h1, h2⟩ := V1.is.lst_v
      exact .inr (.inr ⟨a, xs, rfl, .inl (rd_sub cut_sub h1), fun p hp => new_lst dm hp (h2.cut lo hi) q⟩)
    · cases e
  · rename_i ts
    split at e
    · rename_i ds hd
      split at e
      · cases e
        obtain ⟨f, r⟩ := V1
        cases r with
        | ls h1 h2 => exact .inr (.inr ⟨_, _, rfl, .inl (.inl h1), fun p hp => new_lst dm hp ((h2.allIm hd).1.cut lo hi) q⟩)
      · cases e
    · cases e
  · cases e
/-! ### join, index -/
theorem strs_len : ∀ {ds : List D} {ss : List (List Nat)}, D.strs ds = some ss → ds.length = ss.length
  | [], ss, e => by cases e; rfl
  | .str s :: ds, ss, e => by
    unfold D.strs at e
    cases q : D.strs ds with
    | none => rw [q] at e; cases e
    | some ms =>
      rw [q] at e
      cases e
      exact congrArg (· + 1) (strs_len q)
theorem find_v {C : Hp} {w : V} {e : D} (k : Is K C w e) (g : e.flat = true) : ∀ {vs : List V} {ds : List D} {j : Nat}, Iss K C vs ds → ds.all D.flat = true → ds.findIdx? (fun y => y.eqb e) = some j →
    ∃ z, vs[j]? = some z ∧ eqV z w = true ∧ ∀ (m : Nat) (z' : V), m < j → vs[m]? = some z' → eqV z' w = false
  | _, _, j, .nil, _, q => by simp at q
  | _, _, j, .cons (d := d) (ds := ds) h hs, f, q => by
    rw [List.all_cons] at f
    obtain ⟨f1, f2⟩ := Bool.and_eq_true_iff.mp f
    rw [List.findIdx?_cons] at q
    have ev := eqV_v h k f1 g
    by_cases c : d.eqb e = true
    · rw [if_pos c] at q
      cases q
      exact ⟨_, rfl, by rw [ev]; exact c, fun m z' hm _ => absurd hm (Nat.not_lt_zero _)⟩
    · rw [if_neg c] at q
      cases r : ds.findIdx? (fun y => y.eqb e) with
      | none => rw [r] at q; cases q
      | some i =>
        rw [r] at q
        cases q
        obtain ⟨z, z1, z2, z3⟩ := find_v k g hs f2 r
        refine ⟨z, z1, z2, fun m z' hm e' => ?_⟩
        cases m with
        | zero =>
          cases e'
          rw [ev]
          simpa using c
        | succ m => exact z3 m z' (Nat.lt_of_succ_lt_succ hm) e'
end
end Em

set_option Elab.async false
set_option linter.all false
set_option maxRecDepth 100000
set_option maxHeartbeats 4000000
/-! EmH: where a piece of text stands; the shapes of operations; an operation of the text is the tree's operation. -/
namespace Em
open PySem PySem.Spec PyProof.Rows L2

/-- what is the same in all bodies of a text -/
structure Env1 where
  P : Program
  w : World
  K : PySem.W.Frag
  mg : Str → Option Value
  base : Heap
  bi : List Str
  hbi : ∀ x ∈ bi, mg x = none
/-- a body's context: sc its scope, raw the scope as it is written (of a comprehension's block the two differ) -/
structure Gd (R : Env1) (k : Nat) (N : List Str) (sc raw : Scope) (X : Cx) : Prop where
  pr : X.prog = R.P
  ww : X.w = R.w
  kk : X.K = R.K
  mm : X.mg = R.mg
  bb : X.base = R.base
  nn : X.N = N
  scp : X.env.scope = sc
  nd : N.Nodup
  calm : X.calm = true
  xe : X.xe = fun _ _ => False
  room : Room k X.A
  gua : X.A.guards = some []
  st : ∀ x, raw.names.lookup x = some .local ∨ raw.names.lookup x = some .cell → Loc sc x ∧ (X.fn x = true ∨ sc.names.lookup x = some .local)

/-! ### the shapes of operations -/
def bcall (bi : List Str) (sc : Scope) (x y : Str) : Bool := decide (x = y) && (bi.contains y && decide (sc.names.lookup x = some .globalImplicit))
def notSl : Expr → Bool
  | .Slice _ _ _ _ => false
  | _ => true
def noSuper : Expr → Bool
  | .Call _ _ _ _ => false
  | _ => true
def shBin (op : Operator) : Expr → Option (List Expr)
  | .BinOp a o b _ => if o = op then some [a, b] else none
  | _ => none
def shCmp (op : CmpOp) : Expr → Option (List Expr)
  | .Compare a [o] [b] _ => if o = op ∧ behindInMarks op b = false then some [a, b] else none
  | _ => none
def shIs (op : CmpOp) : Expr → Option (List Expr)
  | .Compare a [o] [.Constant .none _ _] _ => if o = op then some [a] else none
  | _ => none
def shCall (bi : List Str) (sc : Scope) (y : Str) (n : Nat) : Expr → Option (List Expr)
  | .Call (.Name x _) es [] _ => if bcall bi sc x y = true ∧ noStar es = true ∧ es.length = n then some es else none
  | _ => none
def shIsi (bi : List Str) (sc : Scope) (t : Str) : Expr → Option (List Expr)
  | .Call (.Name x _) [a, .Name y _] [] _ => if bcall bi sc x "isinstance" = true ∧ bcall bi sc y t = true ∧ noStar [a] = true then some [a] else none
  | _ => none
def shSl (l h : Bool) : Expr → Option (List Expr)
  | .Subscript a (.Slice lo hi none _) _ => match l, lo, h, hi with
    | false, none, false, none => some [a]
    | true, some x, false, none => some [a, x]
    | false, none, true, some y => some [a, y]
    | true, some x, true, some y => some [a, x, y]
    | _, _, _, _ => none
  | _ => none
def shNeg : Expr → Option (List Expr)
  | .UnaryOp o a _ => if o = .USub then some [a] else none
  | _ => none
def shChain : Expr → Option (List Expr)
  | .Compare a [o, p] [b, c] _ => if o = .LtE ∧ p = .LtE ∧ lastMarks [.LtE, .LtE] [b, c] = false then some [a, b, c] else none
  | _ => none
def shIx : Expr → Option (List Expr)
  | .Subscript a b _ => if notSl b = true then some [a, b] else none
  | _ => none
def shRev : Expr → Option (List Expr)
  | .Subscript a (.Slice none none (some (.UnaryOp o (.Constant (.int i) _ _) _)) _) _ => if o = .USub ∧ i = 1 then some [a] else none
  | _ => none
def shTup : Expr → Option (List Expr)
  | .Tuple es _ _ => if noStar es = true then some es else none
  | _ => none
def shMth (y : Str) : Expr → Option (List Expr)
  | .Call (.Attribute o x ap) [e] [] pos => if x = y ∧ noSuper o = true ∧ noStar [e] = true ∧ ap.endLine = pos.line then some [o, e] else none
  | _ => none
def shLr (bi : List Str) (sc : Scope) : Expr → Option (List Expr)
  | .Call (.Name x _) [.Call (.Name y _) [a] [] _] [] _ => if bcall bi sc x "list" = true ∧ bcall bi sc y "range" = true ∧ noStar [a] = true then some [a] else none
  | _ => none
def shStarL : Expr → Option (List Expr)
  | .List (.Starred a _ :: es) _ => if noStar es = true then some (a :: es) else none
  | _ => none
def shStarT : Expr → Option (List Expr)
  | .Tuple [.Starred a _, .Starred b _] _ _ => some [a, b]
  | _ => none
def shape (bi : List Str) (sc : Scope) : Op → Expr → Option (List Expr)
  | .add, e => shBin .Add e
  | .sub, e => shBin .Sub e
  | .mul, e => shBin .Mult e
  | .fdiv, e => shBin .FloorDiv e
  | .mod, e => shBin .Mod e
  | .pow, e => shBin .Pow e
  | .neg, e => shNeg e
  | .eq, e => shCmp .Eq e
  | .ne, e => shCmp .NotEq e
  | .lt, e => shCmp .Lt e
  | .le, e => shCmp .LtE e
  | .gt, e => shCmp .Gt e
  | .ge, e => shCmp .GtE e
  | .in_, e => shCmp .In e
  | .nin, e => shCmp .NotIn e
  | .isN, e => shIs .Is e
  | .notN, e => shIs .IsNot e
  | .len, e => shCall bi sc "len" 1 e
  | .int, e => shCall bi sc "int" 1 e
  | .abs, e => shCall bi sc "abs" 1 e
  | .min2, e => shCall bi sc "min" 2 e
  | .min3, e => shCall bi sc "min" 3 e
  | .max2, e => shCall bi sc "max" 2 e
  | .sum, e => shCall bi sc "sum" 1 e
  | .all, e => shCall bi sc "all" 1 e
  | .any, e => shCall bi sc "any" 1 e
  | .tuple, e => shCall bi sc "tuple" 1 e
  | .repr, e => shCall bi sc "repr" 1 e
  | .isi .int, e => shIsi bi sc "int" e
  | .isi .bool, e => shIsi bi sc "bool" e
  | .isi .str, e => shIsi bi sc "str" e
  | .isi .tuple, e => shIsi bi sc "tuple" e
  | .isi .list, e => shIsi bi sc "list" e
  | .isi .non, _ => none
  | .isi .dict, e => shIsi bi sc "dict" e
  | .lrange, e => shLr bi sc e
  | .starL, e => shStarL e
  | .starT2, e => shStarT e
  | .dictzip, _ => none
  | .ix, e => shIx e
  | .slc l h, e => shSl l h e
  | .rev, e => shRev e
  | .tup, e => shTup e
  | .join, e => shMth "join" e
  | .lindex, e => shMth "index" e

theorem plain_of {b : Expr} (h : notSl b = true) : PlainIx b := by
  cases b <;> first | (intro o i; rfl) | cases h
theorem attr_plain {o : Expr} (h : noSuper o = true) (name : Str) (env : Env) : attributeBase o name env (eval o env) = eval o env := by
  cases o <;> first | rfl | cases h
theorem back_none {env : Env} {pos : Pos} : ∀ {es : List Expr}, noStar es = true → (backTo pos (starEach es env)).any (·.1) = false
  | [], _ => rfl
  | e :: es, h => by
    rw [star_cons h]
    show (false || (backTo pos (starEach es env)).any (·.1)) = false
    rw [back_none (star_tail h)]; rfl
section
variable {R : Env1} {k : Nat} {N : List Str} {sc raw : Scope} {X : Cx} {e : Expr} {ρ ρ' : Rho} {m : Bool}
theorem Gd.gl (G : Gd R k N sc raw X) {x : Str} (h : sc.names.lookup x = some .globalImplicit) : Gl X x := by
  show X.env.scope.names.lookup x = _
  rw [G.scp]; exact h
theorem Gd.bi (G : Gd R k N sc raw X) {x y : Str} (h : bcall R.bi sc x y = true) : x = y ∧ Gl X x ∧ X.mg x = none := by
  obtain ⟨h1, h2⟩ := Bool.and_eq_true_iff.mp h
  obtain ⟨h2, h3⟩ := Bool.and_eq_true_iff.mp h2
  have h1 := of_decide_eq_true h1
  subst h1
  exact ⟨rfl, G.gl (of_decide_eq_true h3), by rw [G.mm]; exact R.hbi x (by simpa using h2)⟩
theorem PEs.len {es : List Expr} {ts : List T} (h : PEs X es ρ ts m ρ') : es.length = ts.length := by
  induction h with
  | nil => rfl
  | cons _ _ _ ih => exact congrArg (· + 1) ih
theorem sh_bin {op : Operator} {es : List Expr} (h : shBin op e = some es) : ∃ a b pos, e = .BinOp a op b pos ∧ es = [a, b] := by
  unfold shBin at h
  split at h
  · split at h
    · rename_i c
      cases h; subst c
      exact ⟨_, _, _, rfl, rfl⟩
    · cases h
  · cases h
theorem sh_cmp {op : CmpOp} {es : List Expr} (h : shCmp op e = some es) : ∃ a b pos, e = .Compare a [op] [b] pos ∧ es = [a, b] ∧ behindInMarks op b = false := by
  unfold shCmp at h
  split at h
  · split at h
    · rename_i c
      cases h
      obtain ⟨c1, c2⟩ := c
      subst c1
      exact ⟨_, _, _, rfl, rfl, c2⟩
    · cases h
  · cases h
theorem sh_is {op : CmpOp} {es : List Expr} (h : shIs op e = some es) : ∃ a j p pos, e = .Compare a [op] [.Constant .none j p] pos ∧ es = [a] := by
  unfold shIs at h
  split at h
  · split at h
    · rename_i c
      cases h; subst c
      exact ⟨_, _, _, _, rfl, rfl⟩
    · cases h
  · cases h
theorem sh_call {bi : List Str} {y : Str} {n : Nat} {es : List Expr} (h : shCall bi sc y n e = some es) : ∃ x p pos, e = .Call (.Name x p) es [] pos ∧ bcall bi sc x y = true ∧ noStar es = true ∧ es.length = n := by
  unfold shCall at h
  split at h
  · split at h
    · rename_i c
      cases h
      exact ⟨_, _, _, rfl, c⟩
    · cases h
  · cases h
theorem sh_isi {bi : List Str} {y : Str} {es : List Expr} (h : shIsi bi sc y e = some es) : ∃ x p z p2 a pos, e = .Call (.Name x p) [a, .Name z p2] [] pos ∧ es = [a] ∧ bcall bi sc x "isinstance" = true ∧ bcall bi sc z y = true ∧ noStar [a] = true := by
  unfold shIsi at h
  split at h
  · split at h
    · rename_i c
      cases h
      exact ⟨_, _, _, _, _, _, rfl, rfl, c⟩
    · cases h
  · cases h

theorem sh_neg {es : List Expr} (h : shNeg e = some es) : ∃ a pos, e = .UnaryOp .USub a pos ∧ es = [a] := by
  unfold shNeg at h
  split at h
  · split at h
    · rename_i c
      cases h; subst c
      exact ⟨_, _, rfl, rfl⟩
    · cases h
  · cases h
theorem sh_chain {es : List Expr} (h : shChain e = some es) : ∃ a b c pos, e = .Compare a [.LtE, .LtE] [b, c] pos ∧ es = [a, b, c] ∧ lastMarks [.LtE, .LtE] [b, c] = false := by
  unfold shChain at h
  split at h
  · split at h
    · rename_i c
      cases h
      obtain ⟨c1, c2, c3⟩ := c
      subst c1; subst c2
      exact ⟨_, _, _, _, rfl, rfl, c3⟩
    · cases h
  · cases h
theorem sh_ix {es : List Expr} (h : shIx e = some es) : ∃ a b pos, e = .Subscript a b pos ∧ es = [a, b] ∧ notSl b = true := by
  unfold shIx at h
  split at h
  · split at h
    · rename_i c
      cases h
      exact ⟨_, _, _, rfl, rfl, c⟩
    · cases h
  · cases h
theorem sh_rev {es : List Expr} (h : shRev e = some es) : ∃ a j p1 p2 p3 pos, e = .Subscript a (.Slice none none (some (.UnaryOp .USub (.Constant (.int 1) j p1) p2)) p3) pos ∧ es = [a] := by
  unfold shRev at h
  split at h
  · split at h
    · rename_i c
      cases h
      obtain ⟨c1, c2⟩ := c
      subst c1; subst c2
      exact ⟨_, _, _, _, _, _, rfl, rfl⟩
    · cases h
  · cases h
theorem sh_tup {es : List Expr} (h : shTup e = some es) : ∃ j pos, e = .Tuple es j pos ∧ noStar es = true := by
  unfold shTup at h
  split at h
  · split at h
    · rename_i c
      cases h
      exact ⟨_, _, rfl, c⟩
    · cases h
  · cases h
theorem sh_mth {y : Str} {es : List Expr} (h : shMth y e = some es) : ∃ o ap a pos, e = .Call (.Attribute o y ap) [a] [] pos ∧ es = [o, a] ∧ noSuper o = true ∧ noStar [a] = true ∧ ap.endLine = pos.line := by
  unfold shMth at h
  split at h
  · split at h
    · rename_i c
      cases h
      obtain ⟨c1, c2⟩ := c
      subst c1
      exact ⟨_, _, _, _, rfl, rfl, c2⟩
    · cases h
  · cases h

theorem run1 {a : Expr} {ts : List T} {o : Op} {u : T} (hp : PEs X [a] ρ ts m ρ') (hr : o.run ts = some u) : ∃ t, ts = [t] := by
  have := hp.len
  match ts, this with
  | [t], _ => exact ⟨t, rfl⟩
theorem run2 {a b : Expr} {ts : List T} {o : Op} {u : T} (hp : PEs X [a, b] ρ ts m ρ') (hr : o.run ts = some u) : ∃ t1 t2, ts = [t1, t2] := by
  have := hp.len
  match ts, this with
  | [t1, t2], _ => exact ⟨t1, t2, rfl⟩
theorem run3 {a b c : Expr} {ts : List T} {o : Op} {u : T} (hp : PEs X [a, b, c] ρ ts m ρ') (hr : o.run ts = some u) : ∃ t1 t2 t3, ts = [t1, t2, t3] := by
  have := hp.len
  match ts, this with
  | [t1, t2, t3], _ => exact ⟨t1, t2, t3, rfl⟩
theorem Room.hu64 (G : Gd R k N sc raw X) : X.A.units + 64 < cLine := G.room.units

/-- binary operations -/
theorem bin_sound {op : Operator} {o : Op} {es : List Expr} {ts : List T} {u : T} {r : R2} (hs : shBin op e = some es) (hp : PEs X es ρ ts m ρ') (hr : o.run ts = some u) (ho : OpR X (binaryOp op) r)
    (ok : ∀ x y, ts = [x, y] → o.run [x, y] = some u → Ok2 X.K r x y u) : PE X e (tJ X.K ρ u m ρ') := by
  obtain ⟨a, b, pos, rfl, rfl⟩ := sh_bin hs
  obtain ⟨t1, t2, rfl⟩ := run2 hp hr
  exact PE_bin hp ho (ok t1 t2 rfl hr)
theorem cmp_sound {op : CmpOp} {o : Op} {es : List Expr} {ts : List T} {u : T} {r : R2} (hs : shCmp op e = some es) (hp : PEs X es ρ ts m ρ') (hr : o.run ts = some u) (ho : OpR X (compareOp op) r)
    (ok : ∀ x y, ts = [x, y] → o.run [x, y] = some u → Ok2 X.K r x y u ∧ ∃ b, u = .im (.bl b)) : PE X e (tJ X.K ρ u m ρ') ∧ ∃ b, u = .im (.bl b) ∧ PT X e (tJb X.K ρ b m ρ') := by
  obtain ⟨a, b, pos, rfl, rfl, hm⟩ := sh_cmp hs
  obtain ⟨t1, t2, rfl⟩ := run2 hp hr
  obtain ⟨h1, c, rfl⟩ := ok t1 t2 rfl hr
  exact ⟨PE_cmp hp ho hm h1, c, rfl, PT_cmp hp ho hm h1⟩
/-- calls of built-ins -/
theorem callB_sound (G : Gd R k N sc raw X) {y : Str} {id : String} {n : Nat} {es : List Expr} {ts : List T} {u : T} {r : List V → Hp → VK → Prop} (hs : shCall R.bi sc y (n + 1) e = some es) (hp : PEs X es ρ ts m ρ') (hc : CallR X (.builtin id) r)
    (hv : bootBuiltins y = some (.builtin id)) (h1 : y ≠ "__name__") (h2 : (y == ("__debug__" : Str)) = false) (ok : OkL X.K r ts u) : PE X e (tJ X.K ρ u m ρ') := by
  obtain ⟨x, p, pos, rfl, hb, hn, hl⟩ := sh_call hs
  obtain ⟨rfl, hg, hm⟩ := G.bi hb
  match es, hl with
  | a :: es, _ => exact PE_call1 hp hn hc hg hm hv h1 h2 ok (back_none (star_tail hn))
theorem callT_sound (G : Gd R k N sc raw X) {y : Str} {T0 : String} {n : Nat} {es : List Expr} {ts : List T} {u : T} {r : List V → Hp → VK → Prop} (hs : shCall R.bi sc y (n + 1) e = some es) (hp : PEs X es ρ ts m ρ') (hc : CallR X (.type T0) r)
    (hv : bootBuiltins y = some (.type T0)) (h1 : y ≠ "__name__") (h2 : (y == ("__debug__" : Str)) = false) (ok : OkL X.K r ts u) : PE X e (tJ X.K ρ u m ρ') := by
  obtain ⟨x, p, pos, rfl, hb, hn, hl⟩ := sh_call hs
  obtain ⟨rfl, hg, hm⟩ := G.bi hb
  match es, hl with
  | a :: es, _ => exact PE_callT hp hn hc hg hm hv h1 h2 ok (back_none (star_tail hn))
theorem ts1 {es : List Expr} {ts : List T} (hp : PEs X es ρ ts m ρ') (h : es.length = 1) : ∃ t, ts = [t] := by
  have := hp.len
  rw [h] at this
  match ts, this with
  | [t], _ => exact ⟨t, rfl⟩
theorem ts2 {es : List Expr} {ts : List T} (hp : PEs X es ρ ts m ρ') (h : es.length = 2) : ∃ t1 t2, ts = [t1, t2] := by
  have := hp.len
  rw [h] at this
  match ts, this with
  | [t1, t2], _ => exact ⟨t1, t2, rfl⟩
theorem ts3 {es : List Expr} {ts : List T} (hp : PEs X es ρ ts m ρ') (h : es.length = 3) : ∃ t1 t2 t3, ts = [t1, t2, t3] := by
  have := hp.len
  rw [h] at this
  match ts, this with
  | [t1, t2, t3], _ => exact ⟨t1, t2, t3, rfl⟩
theorem sh_len {y : Str} {n : Nat} {es : List Expr} {bi : List Str} (h : shCall bi sc y n e = some es) : es.length = n := by
  obtain ⟨_, _, _, _, _, _, hl⟩ := sh_call h
  exact hl
theorem isi_sound (G : Gd R k N sc raw X) {y : Str} {t : Ty} {es : List Expr} {ts : List T} {u : T} (hs : shIsi R.bi sc y e = some es) (hp : PEs X es ρ ts m ρ') (hr : Op.run (.isi t) ts = some u) (hv : bootBuiltins y = some (.type t.nm)) (hi : bootBuiltins "isinstance" = some (.builtin "isinstance"))
    (h1 : y ≠ "__name__") (h2 : (y == ("__debug__" : Str)) = false) : PE X e (tJ X.K ρ u m ρ') := by
  obtain ⟨x, p, z, p2, a, pos, rfl, rfl, hb, hb2, hn⟩ := sh_isi hs
  obtain ⟨rfl, hg, hm⟩ := G.bi hb
  obtain ⟨rfl, hg2, hm2⟩ := G.bi hb2
  obtain ⟨t0, rfl⟩ := run1 hp hr
  have hr : im1 (fun d => imB (t.has d)) t0 = some u := hr
  obtain ⟨d, rfl, hr⟩ := im1_some hr
  cases hr
  obtain ⟨ta, ha, kk⟩ := hp.one
  have hs1 : starEach [a, Expr.Name z p2] X.env = (false, eval a X.env) :: starEach [Expr.Name z p2] X.env := by
    cases a <;> first | rfl | cases hn
  refine PE_imp (pe_callB call_isi hg hm hi (pa_cons ha (pa_cons (pe_bltn hg2 hm2 hv (v := .ty t.nm) rfl h1 h2) pa_nil) hs1) (by decide) (by decide) hs1) fun σ H Q q => ?_
  show ta σ H fun v H1 => rIsi X.K [v, .ty t.nm] H1 Q
  refine kk σ H _ ?_
  obtain ⟨M, F, own, S, q⟩ := q
  refine ⟨M, F, own, S, fun v H' own' P V1 => ⟨v, .ty t.nm, _, _, t.has d, rfl, .ty _, tyx_of (V1.is.mono cut_sub), kit_ty (by rw [ty_kit, ← ty_has]), q _ H' own' P (.im (.bl _))⟩⟩
end
end Em

set_option Elab.async false
set_option linter.all false
set_option maxRecDepth 100000
set_option maxHeartbeats 4000000
/-! EmI: an operation of the text is the tree's operation, one theorem for all. -/
namespace Em
open PySem PySem.Spec PyProof.Rows L2

theorem bt_len : bootBuiltins "len" = some (.builtin "len") := PySem.boot_len
theorem bt_int : bootBuiltins "int" = some (.type "int") := by decide +kernel
theorem bt_bool : bootBuiltins "bool" = some (.type "bool") := by decide +kernel
theorem bt_str : bootBuiltins "str" = some (.type "str") := by decide +kernel
theorem bt_tuple : bootBuiltins "tuple" = some (.type "tuple") := by decide +kernel
theorem bt_list : bootBuiltins "list" = some (.type "list") := by decide +kernel
theorem bt_abs : bootBuiltins "abs" = some (.builtin "abs") := by decide +kernel
theorem bt_min : bootBuiltins "min" = some (.builtin "min") := by decide +kernel
theorem bt_max : bootBuiltins "max" = some (.builtin "max") := by decide +kernel
theorem bt_sum : bootBuiltins "sum" = some (.builtin "sum") := by decide +kernel
theorem bt_all : bootBuiltins "all" = some (.builtin "all") := by decide +kernel
theorem bt_any : bootBuiltins "any" = some (.builtin "any") := by decide +kernel
theorem bt_repr : bootBuiltins "repr" = some (.builtin "repr") := by decide +kernel
theorem bt_dict : bootBuiltins "dict" = some (.type "dict") := by decide +kernel
theorem bt_isinstance : bootBuiltins "isinstance" = some (.builtin "isinstance") := by decide +kernel

/-- shapes whose test is that of their value -/
def plainTest : Expr → Bool
  | .UnaryOp .Not _ _ => false
  | .BoolOp _ _ _ => false
  | .IfExp _ _ _ _ => false
  | .Compare _ _ _ _ => false
  | _ => true
theorem test_plain {e : Expr} (h : plainTest e = true) (env : Env) (whole : Sem Value) : isTrue e env whole = (do let v ← whole; standAt e.pos; holding [v] (truthy v)) := by
  cases e with
  | UnaryOp o a p => cases o <;> first | rfl | cases h
  | _ => first | rfl | cases h
section
variable {R : Env1} {k : Nat} {N : List Str} {sc raw : Scope} {X : Cx} {e : Expr} {ρ ρ' : Rho} {m : Bool} {es : List Expr} {ts : List T} {u : T}
theorem PT_of {b : Bool} (h : PE X e (tJ X.K ρ (.im (.bl b)) m ρ')) (hp : plainTest e = true) : PT X e (tJb X.K ρ b m ρ') := by
  refine PT_imp (pt_val h (fun wh => test_plain hp X.env wh)) fun σ H Q q => ?_
  obtain ⟨M, F, own, S, q⟩ := q
  exact ⟨M, F, own, S, fun v H' own' P V1 => ⟨b, V1.is.bl_v, q H' own' P⟩⟩
/-- comparisons, as values and as tests -/
theorem cmp_all (G : Gd R k N sc raw X) {o : Op} (ho : o = .eq ∨ o = .ne ∨ o = .lt ∨ o = .le ∨ o = .gt ∨ o = .ge ∨ o = .in_ ∨ o = .nin) (hs : shape R.bi sc o e = some es) (hp : PEs X es ρ ts m ρ') (hr : o.run ts = some u) :
    PE X e (tJ X.K ρ u m ρ') ∧ ∃ b, u = .im (.bl b) ∧ PT X e (tJb X.K ρ b m ρ') := by
  have hu := G.room.units
  have hu5 : X.A.units + 65 < cLine := by have := G.room.un; omega
  rcases ho with rfl | rfl | rfl | rfl | rfl | rfl | rfl | rfl
  · refine cmp_sound (op := .Eq) hs hp hr (op_eqAll hu) fun x y _ q => ?_
    obtain ⟨b, q1, q2⟩ := bind_some q
    cases q2
    exact ⟨ok_eq q1, b, rfl⟩
  · refine cmp_sound (op := .NotEq) hs hp hr (op_neAll hu) fun x y _ q => ?_
    obtain ⟨b, q1, q2⟩ := bind_some q
    cases q2
    exact ⟨ok_ne q1, _, rfl⟩
  · refine cmp_sound (op := .Lt) hs hp hr op_ltAll fun x y _ q => ⟨ok_lt q, ?_⟩
    have q : opLt x y = some u := q
    unfold opLt at q
    split at q
    · cases q; exact ⟨_, rfl⟩
    · obtain ⟨_, _, _, _, q⟩ := int2_some q
      cases q; exact ⟨_, rfl⟩
  · refine cmp_sound (op := .LtE) hs hp hr op_le fun x y _ q => ?_
    obtain ⟨a, b, rfl, rfl, q⟩ := int2_some q
    cases q
    exact ⟨ok_B0 (g := fun i j => decide (i ≤ j)), _, rfl⟩
  · refine cmp_sound (op := .Gt) hs hp hr op_gt fun x y _ q => ?_
    obtain ⟨a, b, rfl, rfl, q⟩ := int2_some q
    cases q
    exact ⟨ok_B0 (g := fun i j => decide (j < i)), _, rfl⟩
  · refine cmp_sound (op := .GtE) hs hp hr op_ge fun x y _ q => ?_
    obtain ⟨a, b, rfl, rfl, q⟩ := int2_some q
    cases q
    exact ⟨ok_B0 (g := fun i j => decide (j ≤ i)), _, rfl⟩
  · refine cmp_sound (op := .In) hs hp hr (op_in4 hu5) fun x y _ q => ?_
    obtain ⟨b, q1, q2⟩ := bind_some q
    cases q2
    exact ⟨ok_in q1, _, rfl⟩
  · refine cmp_sound (op := .NotIn) hs hp hr (op_nin4 hu5) fun x y _ q => ?_
    obtain ⟨b, q1, q2⟩ := bind_some q
    cases q2
    exact ⟨ok_nin q1, _, rfl⟩
/-- is None, is not None -/
theorem is_all {o : Op} (ho : o = .isN ∨ o = .notN) (hs : shape R.bi sc o e = some es) (hp : PEs X es ρ ts m ρ') (hr : o.run ts = some u) :
    PE X e (tJ X.K ρ u m ρ') ∧ ∃ b, u = .im (.bl b) ∧ PT X e (tJb X.K ρ b m ρ') := by
  rcases ho with rfl | rfl
  · obtain ⟨a, j, p, pos, rfl, rfl⟩ := sh_is hs
    obtain ⟨t, rfl⟩ := run1 hp hr
    obtain ⟨d, rfl, q⟩ := im1_some hr
    cases q
    obtain ⟨ta, ha, kk⟩ := hp.one
    refine ⟨PE_imp (pe_cmpR op_isN ha pe_non (nomark _)) fun σ H Q q => kk σ H _ ?_, _, rfl, PT_imp (pt_cmpR op_isN ha pe_non (nomark _)) fun σ H Q q => ?_⟩
    · obtain ⟨M, F, own, S, q⟩ := q
      exact ⟨M, F, own, S, fun v H' own' P V1 => ⟨rfl, by rw [dec_non V1.is]; exact q _ H' own' P (.im (.bl _))⟩⟩
    · show ta σ H fun v H1 => ((V.non = V.non) ∧ ∃ k, V.bl (decide (v = .non)) = .bl k ∧ Q k H1)
      refine kk σ H _ ?_
      obtain ⟨M, F, own, S, q⟩ := q
      exact ⟨M, F, own, S, fun v H' own' P V1 => ⟨rfl, _, rfl, by rw [dec_non V1.is]; exact q H' own' P⟩⟩
  · obtain ⟨a, j, p, pos, rfl, rfl⟩ := sh_is hs
    obtain ⟨t, rfl⟩ := run1 hp hr
    obtain ⟨d, rfl, q⟩ := im1_some hr
    cases q
    obtain ⟨ta, ha, kk⟩ := hp.one
    refine ⟨PE_imp (pe_cmpR op_notN ha pe_non (nomark _)) fun σ H Q q => kk σ H _ ?_, _, rfl, PT_imp (pt_cmpR op_notN ha pe_non (nomark _)) fun σ H Q q => ?_⟩
    · obtain ⟨M, F, own, S, q⟩ := q
      exact ⟨M, F, own, S, fun v H' own' P V1 => ⟨rfl, by rw [dec_non V1.is]; exact q _ H' own' P (.im (.bl _))⟩⟩
    · show ta σ H fun v H1 => ((V.non = V.non) ∧ ∃ k, V.bl (!decide (v = .non)) = .bl k ∧ Q k H1)
      refine kk σ H _ ?_
      obtain ⟨M, F, own, S, q⟩ := q
      exact ⟨M, F, own, S, fun v H' own' P V1 => ⟨rfl, _, rfl, by rw [dec_non V1.is]; exact q H' own' P⟩⟩
theorem neg_sound (hs : shNeg e = some es) (hp : PEs X es ρ ts m ρ') (hr : Op.neg.run ts = some u) : PE X e (tJ X.K ρ u m ρ') := by
  obtain ⟨a, pos, rfl, rfl⟩ := sh_neg hs
  obtain ⟨t, rfl⟩ := run1 hp hr
  obtain ⟨i, rfl, q⟩ := int1_some hr
  cases q
  exact PE_un hp un_neg ok_neg
theorem ix_dget {X : Cx} (hu : X.A.units + 1 < cLine) : IxR X (fun x y H Q => ∃ a v, x = .ref a ∧ DGet H a y (some v) ∧ Q v H) := by
  intro value slice pins s σ H x y v u Q I rx ry h hs
  obtain ⟨a, z, rfl, g, q⟩ := h
  obtain rfl : v = Value.ref a := rx
  unfold subscriptTail
  refine wpAny_bind ?_
  rw [getitemInPython_of_ne (dict_typeIs I g).not_modules]
  refine wpAny_bind (wpAny_specialOf (dict_typeIs I g) PySem.F.slot_dict_getitem.lookup ?_)
  have fin : wpAny (model X.prog X.w) X.A (subscripted slice false (.ref a) u) (fun r s₃ => wpAny (model X.prog X.w) X.A (letTemporaryGo value (.ref a) r >>= fun _ => pure r) (EP X pins σ Q) X.xe s₃) X.xe s := by
    rw [hs]
    exact wpAny_operating (d_getItem hu I g ry fun w' s3 I3 rw' => wpAny_bind (wpAny_letTemporaryGo (wpAny_pure ⟨z, H, I3, rw', q⟩)))
  first
    | exact wpAny_pure (wpAny_bind fin)
    | exact wpAny_bind (wpAny_pure (wpAny_bind fin))
    | exact wpAny_bind fin
theorem ix_of {a b : Expr} {ta tb : TE} {pos : Pos} (hu : X.A.units + 1 < cLine) (ha : PE X a ta) (hb : PE X b tb) (hs : notSl b = true) : PE X (.Subscript a b pos) (tOp (rIxA X) ta tb) :=
  pe_ix (r := rIxA X) (fun value slice pins s σ H x y v u Q I rx ry h hs => h.elim (fun h => ix_seq value slice pins s σ H x y v u Q I rx ry h hs) (fun h => ix_dget hu value slice pins s σ H x y v u Q I rx ry h hs)) ha hb (plain_of hs)
theorem ix_sound (G : Gd R k N sc raw X) (hs : shIx e = some es) (hp : PEs X es ρ ts m ρ') (hr : Op.ix.run ts = some u) : PE X e (tJ X.K ρ u m ρ') := by
  obtain ⟨a, b, pos, rfl, rfl, hb⟩ := sh_ix hs
  obtain ⟨t1, t2, rfl⟩ := run2 hp hr
  have q : opIxA t1 t2 = some u := hr
  obtain ⟨ta, tb, ha, hb2, kk⟩ := hp.two
  refine PE_imp (ix_of (by have := G.room.un; omega) ha hb2 hb) fun σ H Q q2 => kk σ H _ ?_
  obtain ⟨M, F, own, S, q2⟩ := q2
  exact ⟨M, F, own, S, fun v z H' own' P V1 V2 => ok_ixA q _ H' v z Q P.sl.dom V1 V2 fun y H2 e Vy => q2 y H2 own' (P.grow e) Vy⟩
theorem rev_sound (hs : shRev e = some es) (hp : PEs X es ρ ts m ρ') (hr : Op.rev.run ts = some u) : PE X e (tJ X.K ρ u m ρ') := by
  obtain ⟨a, j, p1, p2, p3, pos, rfl, rfl⟩ := sh_rev hs
  obtain ⟨t, rfl⟩ := run1 hp hr
  obtain ⟨ta, ha, kk⟩ := hp.one
  refine PE_imp (pe_rev ha) fun σ H Q q2 => kk σ H _ ?_
  obtain ⟨M, F, own, S, q2⟩ := q2
  exact ⟨M, F, own, S, fun v H' own' P V1 => ok_rev hr _ H' v Q P.sl.dom V1 fun y H2 e Vy => q2 y H2 own' (P.grow e) Vy⟩
theorem tup_sound (hs : shTup e = some es) (hp : PEs X es ρ ts m ρ') (hr : Op.tup.run ts = some u) : PE X e (tJ X.K ρ u m ρ') := by
  obtain ⟨j, pos, rfl, hn⟩ := sh_tup hs
  have hr : opTup ts = some u := hr
  unfold opTup at hr
  split at hr
  · rename_i ds hd
    split at hr
    · rename_i hl
      cases hr
      refine PE_imp (pe_tup (hp.pa hn)) fun σ H Q q2 => ?_
      obtain ⟨M, F, own, S, q2⟩ := q2
      refine ⟨M, F, own, S, fun vs H' own' P V => ?_⟩
      obtain ⟨i1, i2⟩ := V.allIm hd
      refine ⟨by rw [i1.len]; exact le_line hl, fun p hp => new_tup P.sl.dom hp i1 fun y H2 e Vy => q2 y H2 own' (P.grow e) Vy⟩
    · cases hr
  · cases hr
theorem slc_sound {l h : Bool} (hs : shSl l h e = some es) (hp : PEs X es ρ ts m ρ') (hr : (Op.slc l h).run ts = some u) : PE X e (tJ X.K ρ u m ρ') := by
  unfold shSl at hs
  split at hs
  · split at hs
    · cases hs
      obtain ⟨t, rfl⟩ := run1 hp hr
      obtain ⟨ta, ha, kk⟩ := hp.one
      refine PE_imp (pe_slice sl_all ha po_none po_none) fun σ H Q q2 => ?_
      show ta σ H fun x H1 => rSlc X.K x none none H1 Q
      refine kk σ H _ ?_
      obtain ⟨M, F, own, S, q2⟩ := q2
      exact ⟨M, F, own, S, fun v H' own' P V1 => ok_sl hr _ H' v Q P.sl.dom V1 fun y H2 e Vy => q2 y H2 own' (P.grow e) Vy⟩
    · cases hs
      obtain ⟨t1, t2, rfl⟩ := run2 hp hr
      obtain ⟨i, rfl, q⟩ := int1_some hr
      obtain ⟨ta, tb, ha, hb, kk⟩ := hp.two
      refine PE_imp (pe_slice sl_all ha (po_some hb) po_none) fun σ H Q q2 => ?_
      show ta σ H fun x H1 => tb σ H1 fun y H2 => ∃ i, y = .int i ∧ rSlc X.K x (some i) none H2 Q
      refine kk σ H _ ?_
      obtain ⟨M, F, own, S, q2⟩ := q2
      exact ⟨M, F, own, S, fun v z H' own' P V1 V2 => ⟨i, V2.is.int_v, ok_sl q _ H' v Q P.sl.dom V1 fun y H2 e Vy => q2 y H2 own' (P.grow e) Vy⟩⟩
    · cases hs
      obtain ⟨t1, t2, rfl⟩ := run2 hp hr
      obtain ⟨i, rfl, q⟩ := int1_some hr
      obtain ⟨ta, tb, ha, hb, kk⟩ := hp.two
      refine PE_imp (pe_slice sl_all ha po_none (po_some hb)) fun σ H Q q2 => ?_
      show ta σ H fun x H1 => tb σ H1 fun y H2 => ∃ i, y = .int i ∧ rSlc X.K x none (some i) H2 Q
      refine kk σ H _ ?_
      obtain ⟨M, F, own, S, q2⟩ := q2
      exact ⟨M, F, own, S, fun v z H' own' P V1 V2 => ⟨i, V2.is.int_v, ok_sl q _ H' v Q P.sl.dom V1 fun y H2 e Vy => q2 y H2 own' (P.grow e) Vy⟩⟩
    · cases hs
      obtain ⟨t1, t2, t3, rfl⟩ := run3 hp hr
      obtain ⟨i, j, rfl, rfl, q⟩ := int2_some hr
      cases hp with
      | cons h1 hp2 k1 =>
        cases hp2 with
        | cons h2 hp3 k2 =>
          cases hp3 with
          | cons h3 hp4 k3 =>
            cases hp4
            refine PE_imp (pe_slice sl_all h1 (po_some h2) (po_some h3)) fun σ H Q q2 => ?_
            obtain ⟨M, F, own, S, q2⟩ := q2
            refine ⟨M, F, own, S, fun v H1 own1 P1 V1 => ⟨M, F, own1, P1.sl, fun y H2 own2 P2 V2 => ⟨i, V2.is.int_v, ⟨M, F, own2, P2.sl, fun z H3 own3 P3 V3 => ⟨j, V3.is.int_v, ?_⟩⟩⟩⟩⟩
            have P23 := P2.tr (P3.weak (m1 := _ || false) (fun e => by simpa using e))
            exact ok_sl q _ H3 v Q P3.sl.dom (V1.go P23 k1) fun y H4 e Vy => q2 y H4 own3 ((P1.tr P23).grow e) Vy
    · cases hs
  · cases hs
theorem join_eq (a : List Nat) : ∀ ss : List (List Nat), V.str (Txt.join ⟨a.toArray⟩ (ss.map fun s => (⟨s.toArray⟩ : Str))) = sv (joinN a ss) := by
  have key : ∀ ss : List (List Nat), Str.join ⟨a.toArray⟩ (ss.map fun s => (⟨s.toArray⟩ : Str)) = ⟨(joinN a ss).toArray⟩ := by
    intro ss
    induction ss with
    | nil => rfl
    | cons s r ih =>
      cases r with
      | nil => rfl
      | cons t r =>
        show (⟨s.toArray⟩ : Str) ++ (⟨a.toArray⟩ : Str) ++ Str.join ⟨a.toArray⟩ ((t :: r).map fun s => (⟨s.toArray⟩ : Str)) = _
        rw [ih, sv_app, sv_app, List.append_assoc]
        rfl
  intro ss
  unfold Txt.join
  rw [StrLaws.glued_eq_join, key]
  rfl
theorem join_sound (hs : shMth "join" e = some es) (hp : PEs X es ρ ts m ρ') (hr : Op.join.run ts = some u) : PE X e (tJ X.K ρ u m ρ') := by
  obtain ⟨o, ap, a, pos, rfl, rfl, h1, h2, h3⟩ := sh_mth hs
  obtain ⟨t1, t2, rfl⟩ := run2 hp hr
  obtain ⟨d, rfl, q⟩ := im1_some hr
  unfold opJoin at q
  split at q
  · rename_i z ds hz
    split at q
    · rename_i ss hss
      split at q
      · rename_i hl
        cases q
        have hst : starEach [a] X.env = [(false, eval a X.env)] := star_cons h2 X.env
        cases hp with
        | cons g1 hp2 k1 =>
          cases hp2 with
          | cons g2 hp3 k2 =>
            cases hp3
            refine PE_imp (pe_join g1 g2 hst (attr_plain h1 _ _) (by simpa using h3)) fun σ H Q q2 => ?_
            obtain ⟨M, F, own, S, q2⟩ := q2
            refine ⟨M, F, own, S, fun v H1 own1 P1 V1 => ⟨⟨_, V1.is.str_v⟩, ⟨M, F, own1, P1.sl, fun y H2 own2 P2 V2 => ?_⟩⟩⟩
            obtain ⟨p, xs, rfl, r, i⟩ := V2.seq_v hz cut_sub
            refine ⟨_, p, ss.map (fun s => (⟨s.toArray⟩ : Str)), V1.is.str_v, rfl, by rw [← strs_v i hss]; exact r, ?_, ?_⟩
            · rw [List.map_map, List.length_map, sv_len]
              have : ((fun x : Str => x.length) ∘ fun s : List Nat => (⟨s.toArray⟩ : Str)) = List.length := by funext s; exact sv_len s
              rw [this]
              exact Nat.le_trans hl (by decide)
            · rw [join_eq]
              exact q2 _ H2 own2 (P1.tr (P2.weak (m1 := _ || false) (fun e => by simpa using e))) (.im (.str _))
      · cases q
    · cases q
  · cases q
theorem few1 {env : Env} {cpos : Pos} {a : Expr} (h : noStar [a] = true) : ((backTo cpos (starEach [a] env)).all (fun x => !x.1) && (backToKw cpos (keywordEach [] env)).all (fun x => x.1.isSome)
      && decide (([a] : List Expr).length + ([] : List Keyword).length + (if ([] : List Keyword).isEmpty then 0 else 1) < 30)) = true := by
  rw [star_cons h]; rfl
theorem lindex_sound (hs : shMth "index" e = some es) (hp : PEs X es ρ ts m ρ') (hr : Op.lindex.run ts = some u) : PE X e (tJ X.K ρ u m ρ') := by
  obtain ⟨o, ap, a, pos, rfl, rfl, h1, h2, h3⟩ := sh_mth hs
  obtain ⟨t1, t2, rfl⟩ := run2 hp hr
  obtain ⟨d, rfl, q⟩ := im1_some hr
  obtain ⟨ds, hl, q⟩ := onL_some q
  unfold opLix at q
  split at q
  · rename_i hf
    obtain ⟨f1, f2⟩ := Bool.and_eq_true_iff.mp hf
    split at q
    · rename_i j hj
      cases q
      cases hp with
      | cons g1 hp2 k1 =>
        refine PE_imp (pe_bm PySem.F.plainAttrs_list PySem.F.slot_list_index PySem.F.type_list_index mt_index g1 (hp2.pa h2) (attr_plain h1 _ _) (few1 h2) (by simpa using h3) (star_cons h2 _) (back_none rfl)) fun σ H Q q2 => ?_
        obtain ⟨M, F, own, S, q2⟩ := q2
        refine ⟨M, F, own, S, fun v H1 own1 P1 V1 => ?_⟩
        obtain ⟨p, xs, rfl, r, i⟩ := V1.lst_v hl cut_sub
        refine ⟨.inl ⟨rfl, _, .inl r⟩, ⟨M, F, own1, P1.sl, fun vs H2 own2 P2 V2 => ?_⟩⟩
        obtain ⟨w, rfl, Vw⟩ := V2.one
        obtain ⟨p2, xs2, e2, r2, i2⟩ := (V1.go P2 k1).lst_v hl cut_sub
        cases e2
        obtain ⟨z, z1, z2, z3⟩ := find_v Vw.is f1 i2 f2 hj
        exact ⟨p, xs2, w, j, z, rfl, rfl, .inl r2, flat_v Vw.is f1, flats_v i2 f2, z1, z2, z3, q2 _ H2 own2 (P1.tr P2) (.im (.int _))⟩
    · cases q
  · cases q

/-- [*a, b, ..] -/
theorem starL_sound (hs : shStarL e = some es) (hp : PEs X es ρ ts m ρ') (hr : Op.starL.run ts = some u) : PE X e (tJ X.K ρ u m ρ') := by
  unfold shStarL at hs
  split at hs
  · rename_i a p es' pos
    split at hs
    · rename_i hn
      cases hs
      obtain ⟨t, ts', rfl⟩ : ∃ t ts', ts = t :: ts' := by
        cases ts with
        | nil => cases hp
        | cons t ts' => exact ⟨_, _, rfl⟩
      have hr : opStarL t ts' = some u := hr
      cases hp with
      | cons h1 h2 k1 =>
        unfold opStarL at hr
        split at hr
        · rename_i ds es2 hd he
          split at hr
          · rename_i hl
            cases hr
            refine PE_imp (pe_lst (StX.pa_star h1 (h2.pa hn))) fun σ H Q q => ?_
            obtain ⟨M, F, own, S, q⟩ := q
            refine ⟨M, F, own, S, fun v H1 own1 P1 V1 => ?_⟩
            obtain ⟨b, xs, rfl, r, i⟩ := V1.seq_v hd cut_sub
            refine ⟨b, xs, rfl, r.symm, M, F, own1, P1.sl, fun vs H2 own2 P2 V2 => ?_⟩
            obtain ⟨i2, _⟩ := V2.allIm he
            have ia := (i.mono P2.cl).app i2
            exact ⟨by rw [ia.len, List.length_append]; exact le_line hl, fun p hp => new_lst P2.sl.dom hp ia fun y H3 e Vy => q y H3 own2 ((P1.tr P2).grow e) Vy⟩
          · cases hr
        · cases hr
    · cases hs
  · cases hs
/-- ( *a, *b ) -/
theorem starT_sound (hs : shStarT e = some es) (hp : PEs X es ρ ts m ρ') (hr : Op.starT2.run ts = some u) : PE X e (tJ X.K ρ u m ρ') := by
  unfold shStarT at hs
  split at hs
  · rename_i a p b p2 kk pos
    cases hs
    obtain ⟨t1, t2, rfl⟩ := run2 hp hr
    have hr : opStarT t1 t2 = some u := hr
    unfold opStarT at hr
    split at hr
    · rename_i ds es2 hd he
      split at hr
      · rename_i hl
        cases hr
        cases hp with
        | cons h1 hp2 k1 =>
          cases hp2 with
          | cons h2 hp3 k2 =>
            cases hp3
            refine PE_imp (pe_tup (StX.pa_star h1 (StX.pa_star h2 pa_nil))) fun σ H Q q => ?_
            obtain ⟨M, F, own, S, q⟩ := q
            refine ⟨M, F, own, S, fun v H1 own1 P1 V1 => ?_⟩
            obtain ⟨b1, xs, rfl, r, i⟩ := V1.seq_v hd cut_sub
            refine ⟨b1, xs, rfl, r.symm, M, F, own1, P1.sl, fun w H2 own2 P2 V2 => ?_⟩
            obtain ⟨b2, ys, rfl, r2, i2⟩ := V2.seq_v he cut_sub
            refine ⟨b2, ys, rfl, r2.symm, ?_⟩
            have ia := (i.mono P2.cl).app i2
            show (xs ++ (ys ++ [])).length ≤ sizeLine ∧ _
            rw [List.append_nil]
            exact ⟨by rw [ia.len, List.length_append]; exact le_line hl, fun p hp => new_tup P2.sl.dom hp ia fun y H3 e Vy => q y H3 own2 (((P1.tr P2).weak fun z => by simpa using z).grow e) Vy⟩
      · cases hr
    · cases hr
  · cases hs
theorem rg_is {K : PySem.W.Frag} {C : Hp} (n : Int) : Iss K C (rgV 0 n) ((List.range n.toNat).map fun i => D.int (i : Nat)) := by
  have e : rgV 0 n = ((List.range n.toNat).map fun i : Nat => (i : Int)).map V.int := by
    unfold rgV
    rw [List.map_map, Int.sub_zero]
    refine List.map_congr_left fun i _ => ?_
    show V.int (0 + (i : Nat)) = V.int (i : Nat)
    rw [Int.zero_add]
  have e2 : ((List.range n.toNat).map fun i : Nat => D.int (i : Nat)) = ((List.range n.toNat).map fun i : Nat => (i : Int)).map D.int := by
    rw [List.map_map]; rfl
  rw [e, e2]
  exact Iss.int_map _
/-- list(range(n)) -/
theorem lrange_sound (G : Gd R k N sc raw X) (hs : shLr R.bi sc e = some es) (hp : PEs X es ρ ts m ρ') (hr : Op.lrange.run ts = some u) : PE X e (tJ X.K ρ u m ρ') := by
  unfold shLr at hs
  split at hs
  · rename_i x p y p2 a pos2 pos
    split at hs
    · rename_i hc
      cases hs
      obtain ⟨c1, c2, c3⟩ := hc
      obtain ⟨rfl, g1, m1⟩ := G.bi c1
      obtain ⟨rfl, g2, m2⟩ := G.bi c2
      obtain ⟨t, rfl⟩ := run1 hp hr
      obtain ⟨n, rfl, q⟩ := int1_some hr
      split at q
      · rename_i hn
        cases q
        obtain ⟨ta, ha, kk⟩ := hp.one
        have hL : LIM = 1000000 := rfl
        rw [hL] at hn
        refine PE_imp (pe_listRg G.calm g1 m1 (prg_1 g2 m2 ha (star_cons c3 _)) rfl) fun σ H Q q => kk σ H _ ?_
        obtain ⟨M, F, own, S, q⟩ := q
        refine ⟨M, F, own, S, fun v H1 own1 P1 V1 => ⟨n, V1.is.int_v, ⟨by omega, by omega, by omega, by omega, by omega⟩, fun l hl => ?_⟩⟩
        exact new_lst P1.sl.dom hl (rg_is n) fun y H3 e Vy => q y H3 own1 (P1.grow e) Vy
      · cases q
    · cases hs
  · cases hs

/-- AN OPERATION OF THE TEXT IS THE TREE'S OPERATION -/
theorem op_sound (G : Gd R k N sc raw X) (o : Op) (hs : shape R.bi sc o e = some es) (hp : PEs X es ρ ts m ρ') (hr : o.run ts = some u) : PE X e (tJ X.K ρ u m ρ') := by
  have hc := G.calm
  cases o with
  | add => exact bin_sound (op := .Add) hs hp hr op_addAll fun x y _ q => ok_add q
  | sub =>
    refine bin_sound (op := .Sub) hs hp hr op_sub fun x y _ q => ?_
    obtain ⟨a, b, rfl, rfl, q⟩ := int2_some q
    cases q
    exact ok_I0 (g := fun i j => i - j)
  | mul => exact bin_sound (op := .Mult) hs hp hr op_mulAll fun x y _ q => ok_mul q
  | fdiv =>
    refine bin_sound (op := .FloorDiv) hs hp hr op_fdivW fun x y _ q => ?_
    obtain ⟨a, b, rfl, rfl, q2⟩ := int2_some q
    split at q2
    · rename_i h
      cases q2
      exact ok_fdiv h
    · cases q2
  | mod =>
    refine bin_sound (op := .Mod) hs hp hr op_mod fun x y _ q => ?_
    obtain ⟨a, b, rfl, rfl, q2⟩ := int2_some q
    split at q2
    · rename_i h
      cases q2
      exact ok_mod h
    · cases q2
  | pow =>
    refine bin_sound (op := .Pow) hs hp hr op_powB fun x y _ q => ?_
    obtain ⟨a, b, rfl, rfl, q2⟩ := int2_some q
    split at q2
    · rename_i h
      cases q2
      exact ok_pow h
    · cases q2
  | neg => exact neg_sound hs hp hr
  | eq => exact (cmp_all G (by simp) hs hp hr).1
  | ne => exact (cmp_all G (by simp) hs hp hr).1
  | lt => exact (cmp_all G (by simp) hs hp hr).1
  | le => exact (cmp_all G (by simp) hs hp hr).1
  | gt => exact (cmp_all G (by simp) hs hp hr).1
  | ge => exact (cmp_all G (by simp) hs hp hr).1
  | isN => exact (is_all (R := R) (sc := sc) (o := .isN) (by simp) hs hp hr).1
  | notN => exact (is_all (R := R) (sc := sc) (o := .notN) (by simp) hs hp hr).1
  | in_ => exact (cmp_all G (by simp) hs hp hr).1
  | nin => exact (cmp_all G (by simp) hs hp hr).1
  | len =>
    obtain ⟨t, rfl⟩ := ts1 hp (sh_len hs)
    obtain ⟨n, q1, q2⟩ := bind_some hr
    cases q2
    exact callB_sound G hs hp call_len bt_len (by decide) (by decide) (ok_len q1)
  | int =>
    obtain ⟨t, rfl⟩ := ts1 hp (sh_len hs)
    exact callT_sound G hs hp call_int1 bt_int (by decide) (by decide) (ok_int hr)
  | abs =>
    obtain ⟨t, rfl⟩ := ts1 hp (sh_len hs)
    obtain ⟨a, rfl, q⟩ := int1_some hr
    cases q
    exact callB_sound G hs hp call_abs bt_abs (by decide) (by decide) ok_abs
  | min2 =>
    obtain ⟨t, t2, rfl⟩ := ts2 hp (sh_len hs)
    obtain ⟨a, b, rfl, rfl, q⟩ := int2_some hr
    cases q
    exact callB_sound G hs hp (call_min2 hc) bt_min (by decide) (by decide) (ok_two (g := fun i j => if j < i then j else i))
  | min3 =>
    obtain ⟨t, t2, t3, rfl⟩ := ts3 hp (sh_len hs)
    obtain ⟨a, b, c, rfl, rfl, rfl, q⟩ := int3_some hr
    cases q
    exact callB_sound G hs hp (call_min3 hc) bt_min (by decide) (by decide) ok_min3
  | max2 =>
    obtain ⟨t, t2, rfl⟩ := ts2 hp (sh_len hs)
    obtain ⟨a, b, rfl, rfl, q⟩ := int2_some hr
    cases q
    exact callB_sound G hs hp (call_max2 hc) bt_max (by decide) (by decide) (ok_two (g := fun i j => if j > i then j else i))
  | sum =>
    obtain ⟨t, rfl⟩ := ts1 hp (sh_len hs)
    obtain ⟨ds, h1, q⟩ := onL_some hr
    obtain ⟨ns, h2, q⟩ := bind_some q
    cases q
    exact callB_sound G hs hp (cr_sum hc) bt_sum (by decide) (by decide) (ok_sum h1 h2)
  | all =>
    obtain ⟨t, rfl⟩ := ts1 hp (sh_len hs)
    obtain ⟨ds, h1, q⟩ := onL_some hr
    obtain ⟨ns, h2, q⟩ := bind_some q
    cases q
    exact callB_sound G hs hp (cr_all hc) bt_all (by decide) (by decide) (ok_all h1 h2)
  | any =>
    obtain ⟨t, rfl⟩ := ts1 hp (sh_len hs)
    obtain ⟨ds, h1, q⟩ := onL_some hr
    obtain ⟨ns, h2, q⟩ := bind_some q
    cases q
    exact callB_sound G hs hp (cr_any hc) bt_any (by decide) (by decide) (ok_any h1 h2)
  | tuple =>
    obtain ⟨t, rfl⟩ := ts1 hp (sh_len hs)
    exact callT_sound G hs hp (call_tuple hc) bt_tuple (by decide) (by decide) (ok_tuple hr)
  | repr =>
    obtain ⟨t, rfl⟩ := ts1 hp (sh_len hs)
    obtain ⟨d, rfl, q⟩ := im1_some hr
    exact callB_sound G hs hp (call_repr G.gua G.room.units) bt_repr (by decide) (by decide) (ok_repr q)
  | isi t =>
    cases t with
    | int => exact isi_sound G hs hp hr bt_int bt_isinstance (by decide) (by decide)
    | bool => exact isi_sound G hs hp hr bt_bool bt_isinstance (by decide) (by decide)
    | str => exact isi_sound G hs hp hr bt_str bt_isinstance (by decide) (by decide)
    | tuple => exact isi_sound G hs hp hr bt_tuple bt_isinstance (by decide) (by decide)
    | list => exact isi_sound G hs hp hr bt_list bt_isinstance (by decide) (by decide)
    | non => cases hs
    | dict => exact isi_sound G hs hp hr bt_dict bt_isinstance (by decide) (by decide)
  | ix => exact ix_sound G hs hp hr
  | slc l h => exact slc_sound hs hp hr
  | rev => exact rev_sound hs hp hr
  | tup => exact tup_sound hs hp hr
  | join => exact join_sound hs hp hr
  | lindex => exact lindex_sound hs hp hr
  | lrange => exact lrange_sound G hs hp hr
  | starL => exact starL_sound hs hp hr
  | starT2 => exact starT_sound hs hp hr
  | dictzip => cases hs
/-- .. as a test -/
theorem op_test (G : Gd R k N sc raw X) (o : Op) {b : Bool} (hs : shape R.bi sc o e = some es) (hp : PEs X es ρ ts m ρ') (hr : o.run ts = some (.im (.bl b))) (hc : plainTest e = true ∨ o = .eq ∨ o = .ne ∨ o = .lt ∨ o = .le ∨ o = .gt ∨ o = .ge ∨ o = .in_ ∨ o = .nin ∨ o = .isN ∨ o = .notN) : PT X e (tJb X.K ρ b m ρ') := by
  have fin : ∀ h : PE X e (tJ X.K ρ (.im (.bl b)) m ρ') ∧ ∃ b', T.im (.bl b) = .im (.bl b') ∧ PT X e (tJb X.K ρ b' m ρ'), PT X e (tJb X.K ρ b m ρ') := fun h => by
    obtain ⟨_, b', e1, h⟩ := h
    cases e1
    exact h
  rcases hc with hc | hc | hc | hc | hc | hc | hc | hc | hc | hc | hc
  · exact PT_of (op_sound G o hs hp hr) hc
  · exact fin (cmp_all G (by simp [hc]) hs hp hr)
  · exact fin (cmp_all G (by simp [hc]) hs hp hr)
  · exact fin (cmp_all G (by simp [hc]) hs hp hr)
  · exact fin (cmp_all G (by simp [hc]) hs hp hr)
  · exact fin (cmp_all G (by simp [hc]) hs hp hr)
  · exact fin (cmp_all G (by simp [hc]) hs hp hr)
  · exact fin (cmp_all G (by simp [hc]) hs hp hr)
  · exact fin (cmp_all G (by simp [hc]) hs hp hr)
  · exact fin (is_all (R := R) (sc := sc) (o := o) (by simp [hc]) hs hp hr)
  · exact fin (is_all (R := R) (sc := sc) (o := o) (by simp [hc]) hs hp hr)
end
end Em

set_option Elab.async false
set_option linter.all false
set_option maxRecDepth 100000
set_option maxHeartbeats 4000000
/-! EmJ: several values at once, new lists among them; stores into names. -/
namespace Em
open PySem PySem.Spec PyProof.Rows L2

theorem cutl_congr {l l' : List Addr} {H : Hp} (h : ∀ a, a ∈ l ↔ a ∈ l') : cutl l H = cutl l' H := by
  funext b
  by_cases q : b ∈ l
  · rw [cutl_in q, cutl_in ((h b).mp q)]
  · rw [cutl_out q, cutl_out fun z => q ((h b).mpr z)]
theorem cutl_sub {l l' : List Addr} {H : Hp} (h : ∀ a, a ∈ l' → a ∈ l) : Sub (cutl l H) (cutl l' H) := fun b o e => by
  obtain ⟨e1, e2⟩ := cutl_some e
  rw [cutl_out fun z => e2 (h b z)]
  exact e1
section
variable {K : PySem.W.Frag} {M M' own : List Addr} {F F' H : Hp} {σ : Sg} {ρ : Rho}
theorem Sl.reF (S : Sl K M F own H σ ρ) (h1 : Sub F' H) (h2 : ∀ a ∈ own, F' a = none) (h3 : ∀ a ∈ M, ∃ o, F' a = some o) : Sl K M F' own H σ ρ := ⟨S.rel, S.nod, h1, h2, h3⟩
theorem Sl.self (S : Sl K M F own H σ ρ) : Sl K M (cutl own H) own H σ ρ := S.reF cut_sub (fun _ h => cutl_in h) fun a m => by
  obtain ⟨o, e⟩ := S.inF a m
  exact ⟨o, by rw [cutl_out fun z => S.notM z m]; exact S.frame a o e⟩
theorem Sl.perm (S : Sl K M F own H σ ρ) (h : ∀ a, a ∈ M ↔ a ∈ M') : Sl K M' F own H σ ρ := by
  refine ⟨?_, S.nod, S.frame, S.ownF, fun a m => S.inF a ((h a).mpr m)⟩
  rw [cutl_congr (l' := own ++ M) fun a => by simp [h a]]
  exact S.rel
/-- a slot is given a value; what is new in its tree was among the others' till now -/
theorem Sl.put2 {i : Nat} {v : V} {t : T} {f : List Addr} (S : Sl K (f ++ M) F' own H σ ρ) (r : Rp K (cutl (own ++ (f ++ M)) H) H v t f) (nd : f.Nodup) (hi : i < ρ.length) (hM : ∀ a ∈ f, a ∉ M)
    (fr : Sub F H) (oF : ∀ a, a ∈ own ∨ a ∈ f → F a = none) (iF : ∀ a ∈ M, ∃ o, F a = some o) :
    ∃ own', Sl K M F own' H (σ.set i (some v)) (ρ.set i (some t)) ∧ (∀ a ∈ own', a ∈ own ∨ a ∈ f) ∧ Sub (cutl (own ++ (f ++ M)) H) (cutl (own' ++ M) H) := by
  obtain ⟨pre, g, post, ee, d, k1, _⟩ := S.rel.focus hi
  have sub1 : ∀ b ∈ pre ++ f ++ post, b ∈ own ∨ b ∈ f := fun b m => by
    simp only [List.mem_append] at m
    rcases m with (m | m) | m
    · exact .inl (by rw [ee]; simp [m])
    · exact .inr m
    · exact .inl (by rw [ee]; simp [m])
  have hC : Sub (cutl (own ++ (f ++ M)) H) (cutl (pre ++ f ++ post ++ M) H) := cutl_sub fun a m => by
    rcases List.mem_append.mp m with m | m
    · rcases sub1 a m with q | q <;> simp [q]
    · simp [m]
  have nf : ∀ a ∈ f, a ∉ own := fun a m z => by
    exact S.notM z (List.mem_append_left _ m)
  refine ⟨pre ++ f ++ post, ⟨k1 _ H v t f hC (fun _ _ _ q => q) (r.mono hC fun _ _ _ q => q), ?_, fr, fun a m => oF a (sub1 a m), iF⟩, sub1, hC⟩
  exact nodup_mid (by rw [← ee]; exact S.nod) nd fun x hx => .inr ⟨fun m => nf x hx (by rw [ee]; simp [m]), fun m => nf x hx (by rw [ee]; simp [m])⟩
end

/-- several values: what is new in their trees is apart -/
structure Gst (K : PySem.W.Frag) (M : List Addr) (F : Hp) (own : List Addr) (H : Hp) (σ : Sg) (m : Bool) (ρ : Rho) (H' : Hp) (own' : List Addr) (vs : List V) (ts : List T) (fp : List Addr) : Prop where
  sl : Sl K (fp ++ M) (cutl own' H') own' H' σ ρ
  rp : Rps K (cutl (own' ++ (fp ++ M)) H') H' vs ts fp
  nd : fp.Nodup
  new : ∀ a ∈ fp, a ∈ own ∨ H a = none
  sub : ∀ a ∈ own', a ∈ own ∨ H a = none
  cl : Sub (cutl (own ++ M) H) (cutl (own' ++ (fp ++ M)) H')
  ext : m = false → Sub H H'
  fr : Sub F H'
section
variable {K : PySem.W.Frag} {M own own1 own2 : List Addr} {F F' H H1 H2 : Hp} {σ : Sg} {m m1 m2 : Bool} {ρ ρ0 ρ1 ρ2 : Rho} {vs vs2 : List V} {ts ts2 : List T} {fp fp2 : List Addr} {v : V} {d : D}
theorem Pst.gst (P : Pst K M F own H σ m ρ1 H1 own1) : Gst K M F own H σ m ρ1 H1 own1 [] [] [] := ⟨P.sl.self, .nil, List.nodup_nil, fun _ h => absurd h List.not_mem_nil, P.sub, P.cl, P.ext, P.sl.frame⟩
theorem Pst.gst1 (P : Pst K M F own H σ m ρ1 H1 own1) (h : Is K (cutl (own1 ++ M) H1) v d) : Gst K M F own H σ m ρ1 H1 own1 [v] [.im d] [] := ⟨P.sl.self, Rps.one (.im h), List.nodup_nil, fun _ h => absurd h List.not_mem_nil, P.sub, P.cl, P.ext, P.sl.frame⟩
theorem Gst.ownF0 {σ1 : Sg} (S : Sl K M F own H σ ρ0) (P : Gst K M F own H σ1 m ρ1 H1 own1 vs ts fp) {a : Addr} (h : a ∈ own1) : F a = none := by
  rcases P.sub a h with q | q
  · exact S.ownF a q
  · exact S.newF q
theorem Gst.back {σ1 : Sg} (S : Sl K M F own H σ ρ0) (P : Gst K M F own H σ1 m ρ1 H1 own1 vs ts fp) {x : Addr} (h : H1 x = none) : x ∈ own ∨ H x = none := by
  refine back_new (own1 := own1) (F := F) (P.cl.tr (cutl_sub fun a ha => ?_)) P.fr S.inF h
  rcases List.mem_append.mp ha with z | z <;> simp [z]
theorem Gst.pst (S : Sl K M F own H σ ρ0) (P : Gst K M F own H σ m ρ1 H1 own1 vs ts []) : Pst K M F own H σ m ρ1 H1 own1 := ⟨P.sl.reF P.fr (fun a h => P.ownF0 S h) S.inF, P.sub, P.cl, P.ext⟩
theorem Gst.weak (P : Gst K M F own H σ m ρ1 H1 own1 vs ts fp) (h : m1 = false → m = false) : Gst K M F own H σ m1 ρ1 H1 own1 vs ts fp := ⟨P.sl, P.rp, P.nd, P.new, P.sub, P.cl, fun e => P.ext (h e), P.fr⟩
theorem Gst.notown (P : Gst K M F own H σ m ρ1 H1 own1 vs ts fp) {a : Addr} (h : a ∈ fp ∨ a ∈ M) : a ∉ own1 := fun z => P.sl.notM z (List.mem_append.mpr h)
theorem Gst.notM {σ1 : Sg} (S : Sl K M F own H σ ρ0) (P : Gst K M F own H σ1 m ρ1 H1 own1 vs ts fp) {a : Addr} (h : a ∈ fp) : a ∉ M := fun z => by
  rcases P.new a h with q | q
  · exact S.notM q z
  · obtain ⟨o, e⟩ := S.inF a z
    rw [S.frame a o e] at q; cases q
theorem Gst.newF {σ1 : Sg} (S : Sl K M F own H σ ρ0) (P : Gst K M F own H σ1 m ρ1 H1 own1 vs ts fp) {a : Addr} (h : a ∈ fp) : F a = none := by
  rcases P.new a h with q | q
  · exact S.ownF a q
  · exact S.newF q
/-- what stood and was not own stands -/
theorem Gst.stay {σ1 : Sg} (S : Sl K M F own H σ ρ0) (P : Gst K M F own H σ1 m ρ1 H1 own1 vs ts fp) {a : Addr} {o : HO} (h : H a = some o) (n : a ∉ own) : ∃ o', H1 a = some o' := by
  by_cases z : a ∈ M
  · obtain ⟨o', e⟩ := S.inF a z
    exact ⟨o', P.fr a o' e⟩
  · refine ⟨o, cut_sub _ _ (P.cl a o ?_)⟩
    rw [cutl_out (by simp [n, z])]
    exact h
theorem Gst.tr {σ1 σ2 : Sg} (S : Sl K M F own H σ ρ0) (a : Gst K M F own H σ1 m1 ρ1 H1 own1 vs ts fp) (b : Gst K (fp ++ M) (cutl own1 H1) own1 H1 σ2 m2 ρ2 H2 own2 vs2 ts2 fp2) : Gst K M F own H σ2 (m1 || m2) ρ2 H2 own2 (vs ++ vs2) (ts ++ ts2) (fp ++ fp2) := by
  have e : ∀ l : List Addr, cutl (l ++ (fp ++ fp2 ++ M)) H2 = cutl (l ++ (fp2 ++ (fp ++ M))) H2 := fun l => cutl_congr fun x => by simp only [List.mem_append]; grind
  have hfp : ∀ x ∈ fp, x ∉ own1 := fun x hx => a.notown (.inl hx)
  have keep : ∀ x ∈ fp, ∀ o, H1 x = some o → H2 x = some o := fun x hx o q => b.fr x o (by rw [cutl_out (hfp x hx)]; exact q)
  refine ⟨b.sl.perm fun x => by simp only [List.mem_append]; grind, ?_, ?_, fun x hx => ?_, fun x hx => (b.sub x hx).elim (a.sub x) (a.back S), ?_, fun q => ?_, fun x o q => ?_⟩
  · rw [e own2]
    exact (a.rp.mono b.cl keep).app b.rp
  · rw [List.nodup_append]
    refine ⟨a.nd, b.nd, fun x hx y hy z => ?_⟩
    subst z
    obtain ⟨zs, q⟩ := a.rp.dom x hx
    rcases b.new x hy with q2 | q2
    · exact hfp x hx q2
    · rw [q] at q2; cases q2
  · rcases List.mem_append.mp hx with hx | hx
    · exact a.new x hx
    · exact (b.new x hx).elim (a.sub x) (a.back S)
  · rw [e own2]
    exact a.cl.tr b.cl
  · cases m1 with
    | true => cases q
    | false =>
      have q : m2 = false := q
      exact (a.ext rfl).tr (b.ext q)
  · refine b.fr x o ?_
    rw [cutl_out ?_]
    · exact a.fr x o q
    · intro z
      have := a.ownF0 S z
      rw [this] at q; cases q
/-- new objects beside -/
theorem Gst.grow (a : Gst K M F own H σ m ρ1 H1 own1 vs ts fp) (e : Sub H1 H2) : Gst K M F own H σ m ρ1 H2 own1 vs ts fp :=
  ⟨(a.sl.grow e).self, a.rp.mono (cut_ext e) fun x _ o q => e x o q, a.nd, a.new, a.sub, a.cl.tr (cut_ext e), fun z => (a.ext z).tr e, a.fr.tr e⟩
end

/-- in the slots ρ the expression gives t, with lists of its own -/
def nJ (K : PySem.W.Frag) (ρ : Rho) (t : T) (m : Bool) (ρ' : Rho) : TE := fun σ H Q => ∃ (M : List Addr) (F : Hp) (own : List Addr), Sl K M F own H σ ρ ∧
  ∀ (v : V) (H' : Hp) (own' fp : List Addr), Gst K M F own H σ m ρ' H' own' [v] [t] fp → Q v H'
def nJs (K : PySem.W.Frag) (ρ : Rho) (ts : List T) (m : Bool) (ρ' : Rho) : TA := fun σ H Q => ∃ (M : List Addr) (F : Hp) (own : List Addr), Sl K M F own H σ ρ ∧
  ∀ (vs : List V) (H' : Hp) (own' fp : List Addr), Gst K M F own H σ m ρ' H' own' vs ts fp → Q vs H'
/-- .. a shared tree -/
theorem nJ_im {X : Cx} {e : Expr} {ρ ρ' : Rho} {d : D} {m : Bool} (h : PE X e (tJ X.K ρ (.im d) m ρ')) : PE X e (nJ X.K ρ (.im d) m ρ') := PE_imp h fun σ H Q q => by
  obtain ⟨M, F, own, S, q⟩ := q
  exact ⟨M, F, own, S, fun v H' own' P V1 => q v H' own' [] (P.gst1 V1.is)⟩
/-- what is new is shared from now on -/
theorem tJ_of {X : Cx} {e : Expr} {ρ ρ' : Rho} {t : T} {m : Bool} (h : PE X e (nJ X.K ρ t m ρ')) : PE X e (tJ X.K ρ (.im t.view) m ρ') := PE_imp h fun σ H Q q => by
  obtain ⟨M, F, own, S, q⟩ := q
  refine ⟨M, F, own, S, fun v H' own' fp P => ?_⟩
  have hc : Sub (cutl (own' ++ (fp ++ M)) H') (cutl (own' ++ M) H') := cutl_sub fun x hx => by
    rcases List.mem_append.mp hx with z | z <;> simp [z]
  have cap : ∀ x ∈ fp, ∀ o, H' x = some o → cutl (own' ++ M) H' x = some o := fun x hx o q => by
    rw [cutl_out ?_]
    · exact q
    · intro z
      rcases List.mem_append.mp z with z | z
      · exact P.notown (.inl hx) z
      · exact P.notM S hx z
  have r := P.rp
  have key : Is X.K (cutl (own' ++ M) H') v t.view := by
    cases r with
    | cons r1 r2 =>
      cases r2
      have r3 := r1.mono hc (H' := cutl (own' ++ M) H') fun x hx o q => cap x (by simpa using hx) o q
      exact r3.view (Sub.rf _)
  have s1 : Sl X.K M (cutl own' H') own' H' σ ρ' := by
    refine ⟨P.sl.rel.mono hc fun _ _ _ q => q, P.sl.nod, P.sl.frame, P.sl.ownF, fun a ha => P.sl.inF a (List.mem_append_right _ ha)⟩
  exact q v H' own' ⟨s1.reF P.fr (fun a h => P.ownF0 S h) S.inF, P.sub, P.cl.tr hc, P.ext⟩ (.im key)

/-! ### stores -/
def Away (p : Nat → Prop) (σ σ' : Sg) : Prop := σ'.length = σ.length ∧ ∀ j, p j → σ'[j]? = σ[j]?
theorem Away.rf {p : Nat → Prop} {σ : Sg} : Away p σ σ := ⟨rfl, fun _ _ => rfl⟩
theorem Away.tr {p : Nat → Prop} {σ σ1 σ2 : Sg} (a : Away p σ σ1) (b : Away p σ1 σ2) : Away p σ σ2 := ⟨b.1.trans a.1, fun j h => (b.2 j h).trans (a.2 j h)⟩
theorem Away.mono {p q : Nat → Prop} {σ σ' : Sg} (a : Away p σ σ') (h : ∀ j, q j → p j) : Away q σ σ' := ⟨a.1, fun j z => a.2 j (h j z)⟩
theorem Away.set {p : Nat → Prop} {σ : Sg} {i : Nat} {x : Option V} (h : ¬ p i) : Away p σ (σ.set i x) := ⟨List.length_set, fun j hj => by
  rw [List.getElem?_set_ne]
  intro e
  rw [e] at h
  exact h hj⟩
def sets : Sg → List Nat → List V → Sg
  | σ, i :: is, v :: vs => sets (σ.set i (some v)) is vs
  | σ, _, _ => σ
section
variable {K : PySem.W.Frag} {M own : List Addr} {F F' H : Hp} {pins : List Nat}
theorem binds_ok : ∀ {is : List Nat} {ts : List T} {vs : List V} {fp own : List Addr} {σ : Sg} {ρ ρ' : Rho} {F F' : Hp}, Sl K (fp ++ M) F' own H σ ρ → Rps K (cutl (own ++ (fp ++ M)) H) H vs ts fp → fp.Nodup → (∀ a ∈ fp, a ∉ M) →
    Sub F H → (∀ a, a ∈ own ∨ a ∈ fp → F a = none) → (∀ a ∈ M, ∃ o, F a = some o) → binds pins is ts ρ = some ρ' →
    ∃ own', Sl K M F own' H (sets σ is vs) ρ' ∧ (∀ a ∈ own', a ∈ own ∨ a ∈ fp) ∧ Sub (cutl (own ++ (fp ++ M)) H) (cutl (own' ++ M) H) ∧ Away (fun j => j ∈ pins ∨ j ∉ is) σ (sets σ is vs) ∧ is.length = vs.length
  | [], [], vs, fp, own, σ, ρ, ρ', F, F', S, r0, _, _, fr, oF, iF, e => by
    cases e
    cases r0
    exact ⟨own, S.reF fr (fun a h => oF a (.inl h)) iF, fun a h => .inl h, Sub.rf _, Away.rf, rfl⟩
  | [], _ :: _, vs, fp, own, σ, ρ, ρ', F, F', S, r0, _, _, fr, oF, iF, e => by cases e
  | _ :: _, [], vs, fp, own, σ, ρ, ρ', F, F', S, r0, _, _, fr, oF, iF, e => by cases e
  | i :: is, t :: ts, vs0, fp, own, σ, ρ, ρ', F, F', S, r0, nd, nM, fr, oF, iF, e => by
    obtain ⟨v, vs, f, g, rfl, rfl, r, rs⟩ : ∃ v vs f g, vs0 = v :: vs ∧ fp = f ++ g ∧ Rp K (cutl (own ++ (fp ++ M)) H) H v t f ∧ Rps K (cutl (own ++ (fp ++ M)) H) H vs ts g := by
      cases r0 with
      | cons r rs => exact ⟨_, _, _, _, rfl, rfl, r, rs⟩
    unfold binds at e
    cases hb : bind1 pins i t ρ with
    | none => rw [hb] at e; cases e
    | some ρ1 =>
      rw [hb] at e
      have e : binds pins is ts ρ1 = some ρ' := e
      unfold bind1 at hb
      split at hb
      · rename_i hi
        cases hb
        obtain ⟨n1, n2, n3⟩ := List.nodup_append.mp nd
        have ee : ∀ l : List Addr, cutl (l ++ (f ++ g ++ M)) H = cutl (l ++ (f ++ (g ++ M))) H := fun l => by rw [List.append_assoc f g M]
        rw [List.append_assoc] at S
        have domM : ∀ a ∈ g ++ M, ∃ o, cutl (own ++ f) H a = some o := fun a ha => by
          have hd : ∃ o, H a = some o := by
            rcases List.mem_append.mp ha with z | z
            · obtain ⟨xs, q⟩ := rs.dom a z
              exact ⟨_, q⟩
            · obtain ⟨o, q⟩ := iF a z
              exact ⟨o, fr a o q⟩
          obtain ⟨o, q⟩ := hd
          refine ⟨o, ?_⟩
          rw [cutl_out ?_]
          · exact q
          · intro z
            rcases List.mem_append.mp z with z | z
            · exact S.notM z (List.mem_append_right _ ha)
            · rcases List.mem_append.mp ha with y | y
              · exact n3 a z a y rfl
              · exact nM a (List.mem_append_left _ z) y
        obtain ⟨own1, S1, h1, h2⟩ := S.put2 (M := g ++ M) (F := cutl (own ++ f) H) (by rw [ee own] at r; exact r) n1 hi.1 (fun a ha z => by
          rcases List.mem_append.mp z with y | y
          · exact n3 a ha a y rfl
          · exact nM a (List.mem_append_left _ ha) y) cut_sub (fun a ha => cutl_in (List.mem_append.mpr ha)) domM
        have rs' : Rps K (cutl (own1 ++ (g ++ M)) H) H vs ts g := rs.mono (by rw [ee own]; exact h2) fun _ _ _ q => q
        obtain ⟨own2, S2, k1, k2, k3, k4⟩ := binds_ok (F := F) S1 rs' n2 (fun a ha => nM a (List.mem_append_right _ ha)) fr (fun a ha => by
          rcases ha with ha | ha
          · rcases h1 a ha with z | z
            · exact oF a (.inl z)
            · exact oF a (.inr (List.mem_append_left _ z))
          · exact oF a (.inr (List.mem_append_right _ ha))) iF e
        refine ⟨own2, S2, fun a ha => ?_, by rw [ee own]; exact h2.tr k2, ?_, by rw [List.length_cons, List.length_cons, k4]⟩
        · rcases k1 a ha with z | z
          · rcases h1 a z with y | y
            · exact .inl y
            · exact .inr (List.mem_append_left _ y)
          · exact .inr (List.mem_append_right _ z)
        · refine Away.tr (σ1 := σ.set i (some v)) (Away.set ?_) (k3.mono fun j hj => ?_)
          · rintro (z | z)
            · exact hi.2 z
            · exact z List.mem_cons_self
          · exact hj.imp id fun z y => z (List.mem_cons_of_mem _ y)
      · cases hb
/-- .. of a group -/
theorem Gst.binds {H0 : Hp} {own0 : List Addr} {σ : Sg} {ρ0 ρ ρ' : Rho} {m : Bool} {vs : List V} {ts : List T} {fp : List Addr} {is : List Nat} (S : Sl K M F own0 H0 σ ρ0) (P : Gst K M F own0 H0 σ m ρ H own vs ts fp) (e : Em.binds pins is ts ρ = some ρ') :
    ∃ own', Sl K M F own' H (sets σ is vs) ρ' ∧ (∀ a ∈ own', a ∈ own0 ∨ H0 a = none) ∧ Sub (cutl (own0 ++ M) H0) (cutl (own' ++ M) H) ∧ Away (fun j => j ∈ pins ∨ j ∉ is) σ (sets σ is vs) ∧ is.length = vs.length := by
  obtain ⟨own', h1, h2, h3, h4, h5⟩ := binds_ok (F := F) P.sl P.rp P.nd (fun a ha => P.notM S ha) P.fr (fun a ha => by
    rcases ha with ha | ha
    · exact P.ownF0 S ha
    · exact P.newF S ha) S.inF e
  exact ⟨own', h1, fun a ha => (h2 a ha).elim (P.sub a) (P.new a), P.cl.tr h3, h4, h5⟩
end
end Em

set_option Elab.async false
set_option linter.all false
set_option maxRecDepth 100000
set_option maxHeartbeats 4000000
/-! EmK: targets. -/
namespace Em
open PySem PySem.Spec PyProof.Rows L2

def Tg.slots : Tg → List Nat
  | .nm i => [i]
  | .tp l => l.slots
  | .nil => []
  | .cons t r => t.slots ++ r.slots
theorem asg_cons {e : Expr} {es : List Expr} (h : noStar (e :: es) = true) (env : Env) : assignEach (e :: es) env = (false, assign e env) :: assignEach es env := by
  cases e <;> first | rfl | (cases h)
theorem asg_len : ∀ {es : List Expr}, noStar es = true → ∀ env : Env, (assignEach es env).length = es.length ∧ (assignEach es env).findIdx? (·.1) = none
  | [], _, _ => ⟨rfl, rfl⟩
  | e :: es, h, env => by
    obtain ⟨h1, h2⟩ := asg_len (star_tail h) env
    rw [asg_cons h]
    refine ⟨congrArg (· + 1) h1, ?_⟩
    rw [List.findIdx?_cons, h2]; rfl
/-- the target is the small language's target -/
def okStore (raw : Scope) (x : Str) : Bool := decide (raw.names.lookup x = some .local) || decide (raw.names.lookup x = some .cell)
mutual
def okTg (N : List Str) (raw : Scope) : Tg → Expr → Bool
  | .nm i, .Name x _ => decide (N[i]? = some x) && okStore raw x
  | .tp l, .Tuple es _ _ => noStar es && okTgs N raw l es
  | _, _ => false
def okTgs (N : List Str) (raw : Scope) : Tg → List Expr → Bool
  | .nil, [] => true
  | .cons t r, e :: es => okTg N raw t e && okTgs N raw r es
  | _, _ => false
end
def gJ (K : PySem.W.Frag) (pins sl : List Nat) (ρ : Rho) (d : D) (ρ' : Rho) : TG := fun v σ H Q => ∃ (M : List Addr) (F : Hp) (own : List Addr), Sl K M F own H σ ρ ∧ Is K (cutl (own ++ M) H) v d ∧
  ∀ (σ' : Sg) (own' : List Addr), Sl K M F own' H σ' ρ' → (∀ a ∈ own', a ∈ own) → Away (fun j => j ∈ pins ∨ j ∉ sl) σ σ' → Q σ' H
def gJs (K : PySem.W.Frag) (pins sl : List Nat) (ρ : Rho) (ds : List D) (ρ' : Rho) : TGs := fun vs σ H Q => ∃ (M : List Addr) (F : Hp) (own : List Addr), Sl K M F own H σ ρ ∧ Iss K (cutl (own ++ M) H) vs ds ∧
  ∀ (σ' : Sg) (own' : List Addr), Sl K M F own' H σ' ρ' → (∀ a ∈ own', a ∈ own) → Away (fun j => j ∈ pins ∨ j ∉ sl) σ σ' → Q σ' H
theorem PG_imp {X : Cx} {e : Expr} {t t' : TG} (h : PG X e t) (k : ∀ v σ H Q, t' v σ H Q → t v σ H Q) : PG X e t' := ⟨fun pins s σ H v u Q I r q => h.run pins s σ H v u Q I r (k v σ H Q q)⟩
theorem PGs_imp {X : Cx} {e : List Expr} {t t' : TGs} (h : PGs X e t) (k : ∀ v σ H Q, t' v σ H Q → t v σ H Q) : PGs X e t' := ⟨fun pins s σ H v u Q I r q => h.run pins s σ H v u Q I r (k v σ H Q q)⟩
section
variable {R : Env1} {k : Nat} {N : List Str} {sc raw : Scope} {X : Cx} {pins : List Nat}
theorem store_of {x : Str} (h : okStore raw x = true) : raw.names.lookup x = some .local ∨ raw.names.lookup x = some .cell := by
  unfold okStore at h
  simpa using h
theorem own_sub {K : PySem.W.Frag} {M own own' : List Addr} {H : Hp} {v : V} {d : D} (h : Is K (cutl (own ++ M) H) v d) (s : ∀ a ∈ own', a ∈ own) : Is K (cutl (own' ++ M) H) v d := h.mono (cutl_sub fun a m => by
  rcases List.mem_append.mp m with z | z
  · exact List.mem_append_left _ (s a z)
  · exact List.mem_append_right _ z)
theorem own_subs {K : PySem.W.Frag} {M own own' : List Addr} {H : Hp} {v : List V} {d : List D} (h : Iss K (cutl (own ++ M) H) v d) (s : ∀ a ∈ own', a ∈ own) : Iss K (cutl (own' ++ M) H) v d := h.mono (cutl_sub fun a m => by
  rcases List.mem_append.mp m with z | z
  · exact List.mem_append_left _ (s a z)
  · exact List.mem_append_right _ z)
theorem okTg_nm {i : Nat} {e : Expr} (h : okTg N raw (.nm i) e = true) : ∃ x p, e = .Name x p ∧ N[i]? = some x ∧ okStore raw x = true := by
  cases e <;> first
    | (obtain ⟨h1, h2⟩ := Bool.and_eq_true_iff.mp h; exact ⟨_, _, rfl, of_decide_eq_true h1, h2⟩)
    | (unfold okTg at h; cases h)
theorem okTg_tp {l : Tg} {e : Expr} (h : okTg N raw (.tp l) e = true) : ∃ es kk p, e = .Tuple es kk p ∧ noStar es = true ∧ okTgs N raw l es = true := by
  cases e <;> first
    | (obtain ⟨h1, h2⟩ := Bool.and_eq_true_iff.mp h; exact ⟨_, _, _, rfl, h1, h2⟩)
    | (unfold okTg at h; cases h)
mutual
theorem tg_sound (G : Gd R k N sc raw X) : ∀ (tg : Tg) (e : Expr) (d : D) (ρ ρ' : Rho), okTg N raw tg e = true → tg.bind pins d ρ = some ρ' → PG X e (gJ X.K pins tg.slots ρ d ρ')
  | .nm i, e, d, ρ, ρ', ok, hb => by
    obtain ⟨x, p, rfl, h1, h2⟩ := okTg_nm ok
    obtain ⟨h3, h4⟩ := G.st x (store_of h2)
    have hi : X.N[i]? = some x := by rw [G.nn]; exact h1
    unfold Tg.bind bind1 at hb
    split at hb
    · rename_i hc
      cases hb
      refine PG_imp (pg_name (by rw [G.nn]; exact G.nd) hi (by rw [G.scp]; exact h3) (by rw [G.scp]; exact h4)) fun v σ H Q q => ?_
      obtain ⟨M, F, own, S, r, q⟩ := q
      obtain ⟨own', S', hs⟩ := S.putIm hc.1 r
      refine q _ own' S' hs (Away.set ?_)
      rintro (z | z)
      · exact hc.2 z
      · exact z (List.mem_singleton.mpr rfl)
    · cases hb
  | .tp l, e, d, ρ, ρ', ok, hb => by
    obtain ⟨es, kk, p, rfl, h1, h2⟩ := okTg_tp ok
    cases d with
    | tup ds =>
      have hb : l.bind pins (.lst ds) ρ = some ρ' := hb
      obtain ⟨hg, hl⟩ := tgs_sound G l es ds ρ ρ' h1 h2 hb
      refine PG_imp (pg_tup (n := es.length) G.calm hg (asg_len h1 _).1 (asg_len h1 _).2) fun v σ H Q q => ?_
      obtain ⟨M, F, own, S, r, q⟩ := q
      obtain ⟨a, xs, rfl, h3, h4⟩ := r.tup_v
      exact ⟨a, xs, rfl, seqT_sub cut_sub h3, h4.len.trans hl, M, F, own, S, h4, q⟩
    | _ => cases hb
  | .nil, _, _, _, _, ok, _ => by unfold okTg at ok; cases ok
  | .cons _ _, _, _, _, _, ok, _ => by unfold okTg at ok; cases ok
theorem tgs_sound (G : Gd R k N sc raw X) : ∀ (l : Tg) (es : List Expr) (ds : List D) (ρ ρ' : Rho), noStar es = true → okTgs N raw l es = true → l.bind pins (.lst ds) ρ = some ρ' → PGs X es (gJs X.K pins l.slots ρ ds ρ') ∧ ds.length = es.length
  | .nil, [], ds, ρ, ρ', _, _, hb => by
    cases ds with
    | nil =>
      cases hb
      refine ⟨PGs_imp pgs_nil fun v σ H Q q => ?_, rfl⟩
      obtain ⟨M, F, own, S, r, q⟩ := q
      cases r
      exact ⟨rfl, q σ own S (fun _ h => h) Away.rf⟩
    | cons d ds => cases hb
  | .cons t r, e :: es, ds, ρ, ρ', hn, ok, hb => by
    obtain ⟨h1, h2⟩ := Bool.and_eq_true_iff.mp ok
    cases ds with
    | nil => cases hb
    | cons d ds =>
      have hb : (match t.bind pins d ρ with | some ρ1 => r.bind pins (.lst ds) ρ1 | none => none) = some ρ' := hb
      cases ht : t.bind pins d ρ with
      | none => rw [ht] at hb; cases hb
      | some ρ1 =>
        rw [ht] at hb
        have g1 := tg_sound G t e d ρ ρ1 h1 ht
        obtain ⟨g2, hl⟩ := tgs_sound G r es ds ρ1 ρ' (star_tail hn) h2 hb
        refine ⟨PGs_imp (pgs_cons g1 g2 (by rw [asg_cons hn]; rfl)) fun v σ H Q q => ?_, congrArg (· + 1) hl⟩
        obtain ⟨M, F, own, S, i, q⟩ := q
        cases i with
        | cons i is =>
          refine ⟨_, _, rfl, M, F, own, S, i, fun σ1 own1 S1 s1 a1 => ⟨M, F, own1, S1, own_subs is s1, fun σ2 own2 S2 s2 a2 => ?_⟩⟩
          refine q σ2 own2 S2 (fun a h => s1 a (s2 a h)) (Away.tr (a1.mono fun j h => h.imp id fun z y => z (List.mem_append_left _ y)) (a2.mono fun j h => h.imp id fun z y => z (List.mem_append_right _ y)))
  | .nil, _ :: _, _, _, _, _, ok, _ => by cases ok
  | .cons _ _, [], _, _, _, _, ok, _ => by cases ok
  | .nm _, _, _, _, _, _, ok, _ => by unfold okTgs at ok; cases ok
  | .tp _, _, _, _, _, _, ok, _ => by unfold okTgs at ok; cases ok
end
end
end Em

set_option Elab.async false
set_option linter.all false
set_option maxRecDepth 100000
set_option maxHeartbeats 4000000
/-! EmZ: zip and enumerate over whatever gives its items one by one. -/
namespace Em
open PySem PySem.Spec PyProof.Rows L2

/-- what gives items one by one: its iterator at it, its container's objects at co -/
structure Stp (P : Program) (w : World) (it : Addr) (co : List Addr) where
  st : Nat → Heap → Prop
  val : Heap → Nat → Value → Prop
  no : Heap → Nat → Prop
  stay : ∀ {i h h'}, st i h → (∀ o, h.get? it = some o → h'.get? it = some o) → st i h'
  obj : ∀ {i h}, st i h → ∃ o, h.get? it = some o ∧ ∀ v, o.data ≠ .cell v
  same : ∀ {h h' : Heap} {i}, (∀ c ∈ co, ∀ o, h.get? c = some o → h'.get? c = some o) → ((∃ u, val h i u) → ∃ u, val h' i u) ∧ (no h i → no h' i) ∧ ((∃ u, val h i u) → ∀ u, val h' i u → val h i u)
  next : ∀ {A : Around} {E : Value → Shared → Prop} {s : Shared} {i : Nat} {Q : Value → Shared → Prop}, st i s.heap → (∃ u, val s.heap i u) → (∀ u h' t, val s.heap i u → st (i + 1) h' → Heap.SameBut it s.heap h' → Q u { s with heap := h', toks := t }) →
    wpAny (model P w) A (Builtin.SmallTypes.nextOf (.ref it)) Q E s
  stop : ∀ {A : Around} {E : Value → Shared → Prop} {s : Shared} {i : Nat} {Q : Value → Shared → Prop}, A.handled = none → st i s.heap → no s.heap i → (∀ h' e, Heap.ExtBut it s.heap h' → (∃ o, h'.get? e = some o ∧ o.cls = .type "StopIteration") → E (.ref e) { s with heap := h' }) →
    wpAny (model P w) A (Builtin.SmallTypes.nextOf (.ref it)) Q E s
section
variable {P : Program} {w : World}
def stpList (it l : Addr) : Stp P w it [l] where
  st := fun i h => h.IsListIter it l i
  val := fun h i u => ∃ xs, h.IsList l xs ∧ xs[i]? = some u
  no := fun h i => ∃ xs, h.IsList l xs ∧ xs[i]? = none
  stay := fun a k => a.at fun o e => k o e
  obj := fun a => by
    obtain ⟨o, e, _, d⟩ := a
    exact ⟨o, e, fun v q => by rw [d] at q; cases q⟩
  same := fun {h h' i} k => by
    have up : ∀ {xs}, h.IsList l xs → h'.IsList l xs := fun ⟨o, e, r⟩ => ⟨o, k l List.mem_cons_self o e, r⟩
    refine ⟨fun ⟨u, xs, a, b⟩ => ⟨u, xs, up a, b⟩, fun ⟨xs, a, b⟩ => ⟨xs, up a, b⟩, fun ⟨u, xs, a, b⟩ v ⟨ys, c, d⟩ => ?_⟩
    obtain ⟨o1, e1, _, n1, d1⟩ := up a
    obtain ⟨o2, e2, _, n2, d2⟩ := c
    rw [e1] at e2
    cases e2
    rw [d1] at d2
    cases d2
    exact ⟨xs, a, d⟩
  next := fun a ⟨u, xs, b, c⟩ k => wpAny_nextOf_list_item a b c fun h' d e => k u h' _ ⟨xs, b, c⟩ d e
  stop := fun hh a ⟨xs, b, c⟩ k => wpAny_nextOf_list_end hh a b c k
def stpTup (it l : Addr) : Stp P w it [l] where
  st := fun i h => h.IsTupleIter it l i
  val := fun h i u => ∃ xs, h.IsTuple l xs ∧ xs[i]? = some u
  no := fun h i => ∃ xs, h.IsTuple l xs ∧ xs[i]? = none
  stay := fun a k => a.at fun o e => k o e
  obj := fun a => by
    obtain ⟨o, e, _, d⟩ := a
    exact ⟨o, e, fun v q => by rw [d] at q; cases q⟩
  same := fun {h h' i} k => by
    have up : ∀ {xs}, h.IsTuple l xs → h'.IsTuple l xs := fun ⟨o, e, r⟩ => ⟨o, k l List.mem_cons_self o e, r⟩
    refine ⟨fun ⟨u, xs, a, b⟩ => ⟨u, xs, up a, b⟩, fun ⟨xs, a, b⟩ => ⟨xs, up a, b⟩, fun ⟨u, xs, a, b⟩ v ⟨ys, c, d⟩ => ?_⟩
    obtain ⟨o1, e1, _, n1, d1⟩ := up a
    obtain ⟨o2, e2, _, n2, d2⟩ := c
    rw [e1] at e2
    cases e2
    rw [d1] at d2
    cases d2
    exact ⟨xs, a, d⟩
  next := fun a ⟨u, xs, b, c⟩ k => RZ.nextOf_tuple_item a b c fun h' d e => k u h' _ ⟨xs, b, c⟩ d e
  stop := fun hh a ⟨xs, b, c⟩ k => RZ.nextOf_tuple_end hh a b c k
end
/-- the objects of a zip lie apart, from each other and from the containers -/
structure Apart (z p q i j : Addr) (co : List Addr) : Prop where
  pz : p ≠ z
  qz : q ≠ z
  iz : i ≠ z
  jz : j ≠ z
  pq : p ≠ q
  pi : p ≠ i
  pj : p ≠ j
  qi : q ≠ i
  qj : q ≠ j
  ij : i ≠ j
  cz : ∀ c ∈ co, c ≠ z
  cq : ∀ c ∈ co, c ≠ q
  ci : ∀ c ∈ co, c ≠ i
  cj : ∀ c ∈ co, c ≠ j
section
variable {P : Program} {w : World} {A : Around} {E : Value → Shared → Prop} {s : Shared} {z p q i j : Addr} {co1 co2 : List Addr} {k : Nat} {a b : Value}
theorem zip_item (S1 : Stp P w i co1) (S2 : Stp P w j co2) {Q : Value → Shared → Prop} (D : Apart z p q i j (co1 ++ co2)) (Z : IsZip s.heap z p q .none) (Pp : IsPair s.heap p (.ref i) (.ref j)) (Pq : IsPair s.heap q a b)
    (t1 : S1.st k s.heap) (t2 : S2.st k s.heap) (g1 : ∃ u, S1.val s.heap k u) (g2 : ∃ u, S2.val s.heap k u)
    (fin : ∀ u v h' t, S1.val s.heap k u → S2.val s.heap k v → IsZip h' z p q (rawInt s.heap.objs.size) → IsPair h' q u v → S1.st (k + 1) h' → S2.st (k + 1) h' → IsPair h' s.heap.objs.size u v →
      (∀ c o, c ≠ z → c ≠ q → c ≠ i → c ≠ j → s.heap.get? c = some o → h'.get? c = some o) → Q (.ref s.heap.objs.size) { s with heap := h', toks := t }) :
    wpAny (model P w) A (Builtin.«zip.__next__» ⟨[.ref z], []⟩) (fun fi s' => ∃ v, fi = .done (.ret v) ∧ Q v s') E s := by
  show wpAny (model P w) A (field (.ref z) 2 >>= _) _ _ _
  refine wpAny_bind (wpAny_field Z rfl (x := Value.bool false) rfl ?_)
  show wpAny (model P w) A (field (.ref z) 3 >>= _) _ _ _
  refine wpAny_bind (wpAny_field Z rfl (x := Value.ref p) rfl (wpAny_bind (wpAny_seqItems Pp rfl ?_)))
  show wpAny (model P w) A (Builtin.SmallTypes.ownedTupleIsFree (.ref z) >>= _) _ _ _
  refine wpAny_bind ?_
  unfold Builtin.SmallTypes.ownedTupleIsFree
  refine wpAny_bind (wpAny_field Z rfl (x := Value.none) rfl (wpAny_pure ?_))
  simp only [if_true]
  refine wpAny_bind (wpAny_rule (wpAny_bind (wpAny_field Z rfl (x := Value.ref q) rfl ?_)))
  refine wpAny_bind (wpAny_setField_rec Z (by simp) fun ha Za sa => ?_)
  replace Za : IsZip ha z p q .ellipsis := Za
  refine wpAny_bind ?_
  simp only [List.zipIdx_cons, List.zipIdx_nil, List.forIn_cons, List.forIn_nil]
  have notco : ∀ {c x : Addr}, (∀ d ∈ co1 ++ co2, d ≠ x) → (c ∈ co1 ∨ c ∈ co2) → c ≠ x := fun f m => f _ (List.mem_append.mpr m)
  -- the first source
  refine wpAny_bind (wpAny_bind (wpAny_onRaise ?_))
  show wpAny (model P w) A (Builtin.SmallTypes.nextOf (.ref i) >>= _) _ _ _
  have m1 := S1.same (i := k) (h := s.heap) (h' := ha) fun c hc o e => sa.extBut c o (notco D.cz (.inl hc)) e
  refine wpAny_bind (S1.next (s := { s with heap := ha }) (S1.stay t1 fun o e => sa.extBut i o D.iz e) (m1.1 g1) fun u hb tb vu t1b sb => wpAny_pure ?_)
  have vu := m1.2.2 g1 u vu
  have Pqb : IsPair hb q a b := sb.extBut q _ D.qi (sa.extBut q _ D.qz Pq)
  refine wpAny_bind (wpAny_seqItems Pqb rfl (wpAny_bind (wpAny_updateSeq_pair (s := { s with heap := hb, toks := tb }) Pqb fun hc Pqc sc => ?_)))
  replace Pqc : IsPair hc q u b := Pqc
  refine wpAny_bind (wpAny_letGo (wpAny_pure ?_))
  -- the second source
  refine wpAny_bind (wpAny_bind (wpAny_onRaise ?_))
  show wpAny (model P w) A (Builtin.SmallTypes.nextOf (.ref j) >>= _) _ _ _
  have m2 := S2.same (i := k) (h := s.heap) (h' := hc) fun c hc' o e => sc.extBut c o (notco D.cq (.inr hc')) (sb.extBut c o (notco D.ci (.inr hc')) (sa.extBut c o (notco D.cz (.inr hc')) e))
  refine wpAny_bind (S2.next (s := { s with heap := hc, toks := tb }) (S2.stay t2 fun o e => sc.extBut j o D.qj.symm (sb.extBut j o D.ij.symm (sa.extBut j o D.jz e))) (m2.1 g2) fun v hd td vv t2d sd => wpAny_pure ?_)
  have vv := m2.2.2 g2 v vv
  have Pqd : IsPair hd q u b := sd.extBut q _ D.qj Pqc
  refine wpAny_bind (wpAny_seqItems Pqd rfl (wpAny_bind (wpAny_updateSeq_pair (s := { s with heap := hd, toks := td }) Pqd fun he Pqe se => ?_)))
  replace Pqe : IsPair he q u v := Pqe
  refine wpAny_bind (wpAny_letGo (wpAny_pure (wpAny_pure ?_)))
  refine wpAny_bind (wpAny_seqItems Pqe rfl (wpAny_bind (wpAny_newTuple ?_)))
  have sz : he.objs.size = s.heap.objs.size := by rw [se.1, sd.1, sc.1, sb.1, sa.1]
  have Ze : IsZip he z p q .ellipsis := se.extBut z _ D.qz.symm (sd.extBut z _ D.jz.symm (sc.extBut z _ D.qz.symm (sb.extBut z _ D.iz.symm Za)))
  have up1 : ∀ c o, c ≠ z → c ≠ q → c ≠ i → c ≠ j → s.heap.get? c = some o → he.get? c = some o := fun c o n1 n2 n3 n4 e =>
    se.extBut c o n2 (sd.extBut c o n4 (sc.extBut c o n2 (sb.extBut c o n3 (sa.extBut c o n1 e))))
  have T1 : S1.st (k + 1) he := S1.stay t1b fun o e => se.extBut i o D.qi.symm (sd.extBut i o D.ij (sc.extBut i o D.qi.symm e))
  have T2 : S2.st (k + 1) he := S2.stay t2d fun o e => se.extBut j o D.qj.symm e
  have zlt : z < he.objs.size := Heap.lt_size Ze
  show wpAny (model P w) A (Builtin.SmallTypes.ownedTupleHandOut (.ref z) (.ref he.objs.size) >>= _) _ _ _
  refine wpAny_bind ?_
  unfold Builtin.SmallTypes.ownedTupleHandOut
  have Zf : IsZip (he.push { cls := .type "tuple", data := .seq #[u, v] }) z p q .ellipsis := Heap.get?_push_of_some _ Ze
  refine wpAny_bind (wpAny_setField_rec Zf (by simp) fun hg Zg sg => ?_)
  replace Zg : IsZip hg z p q (rawInt he.objs.size) := Zg
  refine wpAny_setField_rec Zg (by simp) fun hi Zi si => ?_
  replace Zi : IsZip hi z p q (rawInt he.objs.size) := Zi
  have up2 : ∀ c o, c ≠ z → he.get? c = some o → hi.get? c = some o := fun c o n e => si.extBut c o n (sg.extBut c o n (Heap.get?_push_of_some _ e))
  have Pn : IsPair hi he.objs.size u v := si.extBut _ _ (Nat.ne_of_gt zlt) (sg.extBut _ _ (Nat.ne_of_gt zlt) (Heap.get?_push_size _ rfl))
  rw [sz] at Zi Pn
  refine wpAny_pure ⟨_, rfl, ?_⟩
  show Q (.ref he.objs.size) _
  rw [sz]
  exact fin u v hi td vu vv Zi (up2 q _ D.qz Pqe) (S1.stay T1 fun o e => up2 i o D.iz e) (S2.stay T2 fun o e => up2 j o D.jz e) Pn fun c o n1 n2 n3 n4 e => up2 c o n1 (up1 c o n1 n2 n3 n4 e)
theorem zip_stop (S1 : Stp P w i co1) (S2 : Stp P w j co2) {Q : Fin → Shared → Prop} (hh : A.handled = none) (D : Apart z p q i j (co1 ++ co2)) (Z : IsZip s.heap z p q .none) (Pp : IsPair s.heap p (.ref i) (.ref j)) (Pq : IsPair s.heap q a b)
    (t1 : S1.st k s.heap) (t2 : S2.st k s.heap) (hn : S1.no s.heap k ∨ ((∃ u, S1.val s.heap k u) ∧ S2.no s.heap k))
    (fin : ∀ h' e t, (∀ c o, c ≠ z → c ≠ q → c ≠ i → c ≠ j → s.heap.get? c = some o → h'.get? c = some o) → (∃ o, h'.get? e = some o ∧ o.cls = .type "StopIteration") → E (.ref e) { s with heap := h', toks := t }) :
    wpAny (model P w) A (Builtin.«zip.__next__» ⟨[.ref z], []⟩) Q E s := by
  show wpAny (model P w) A (field (.ref z) 2 >>= _) _ _ _
  refine wpAny_bind (wpAny_field Z rfl (x := Value.bool false) rfl ?_)
  show wpAny (model P w) A (field (.ref z) 3 >>= _) _ _ _
  refine wpAny_bind (wpAny_field Z rfl (x := Value.ref p) rfl (wpAny_bind (wpAny_seqItems Pp rfl ?_)))
  show wpAny (model P w) A (Builtin.SmallTypes.ownedTupleIsFree (.ref z) >>= _) _ _ _
  refine wpAny_bind ?_
  unfold Builtin.SmallTypes.ownedTupleIsFree
  refine wpAny_bind (wpAny_field Z rfl (x := Value.none) rfl (wpAny_pure ?_))
  simp only [if_true]
  refine wpAny_bind (wpAny_rule (wpAny_bind (wpAny_field Z rfl (x := Value.ref q) rfl ?_)))
  refine wpAny_bind (wpAny_setField_rec Z (by simp) fun ha Za sa => ?_)
  replace Za : IsZip ha z p q .ellipsis := Za
  refine wpAny_bind ?_
  simp only [List.zipIdx_cons, List.zipIdx_nil, List.forIn_cons, List.forIn_nil]
  have notco : ∀ {c x : Addr}, (∀ d ∈ co1 ++ co2, d ≠ x) → (c ∈ co1 ∨ c ∈ co2) → c ≠ x := fun f m => f _ (List.mem_append.mpr m)
  refine wpAny_bind (wpAny_bind (wpAny_onRaise ?_))
  show wpAny (model P w) A (Builtin.SmallTypes.nextOf (.ref i) >>= _) _ _ _
  have m1 := S1.same (i := k) (h := s.heap) (h' := ha) fun c hc o e => sa.extBut c o (notco D.cz (.inl hc)) e
  rcases hn with n1 | ⟨g1, n2⟩
  · refine wpAny_bind (S1.stop (s := { s with heap := ha }) hh (S1.stay t1 fun o e => sa.extBut i o D.iz e) (m1.2.1 n1) fun hb e sb ⟨oe, e1, e2⟩ => ?_)
    have Zb : IsZip hb z p q .ellipsis := sb z _ D.iz.symm Za
    have ne : e ≠ z := fun y => by
      subst y
      rw [Zb] at e1
      cases e1
      simp at e2
    exact wpAny_setField_rec Zb (by simp) fun hc _ sc => fin hc e _ (fun c o n1 _ n3 _ y => sc.extBut c o n1 (sb c o n3 (sa.extBut c o n1 y))) ⟨oe, sc.extBut e _ ne e1, e2⟩
  · refine wpAny_bind (S1.next (s := { s with heap := ha }) (S1.stay t1 fun o e => sa.extBut i o D.iz e) (m1.1 g1) fun u hb tb vu t1b sb => wpAny_pure ?_)
    have Pqb : IsPair hb q a b := sb.extBut q _ D.qi (sa.extBut q _ D.qz Pq)
    refine wpAny_bind (wpAny_seqItems Pqb rfl (wpAny_bind (wpAny_updateSeq_pair (s := { s with heap := hb, toks := tb }) Pqb fun hc Pqc sc => ?_)))
    refine wpAny_bind (wpAny_letGo (wpAny_pure (wpAny_bind (wpAny_bind (wpAny_onRaise ?_)))))
    show wpAny (model P w) A (Builtin.SmallTypes.nextOf (.ref j) >>= _) _ _ _
    have m2 := S2.same (i := k) (h := s.heap) (h' := hc) fun c hc' o e => sc.extBut c o (notco D.cq (.inr hc')) (sb.extBut c o (notco D.ci (.inr hc')) (sa.extBut c o (notco D.cz (.inr hc')) e))
    refine wpAny_bind (S2.stop (s := { s with heap := hc, toks := tb }) hh (S2.stay t2 fun o e => sc.extBut j o D.qj.symm (sb.extBut j o D.ij.symm (sa.extBut j o D.jz e))) (m2.2.1 n2) fun hd e sd ⟨oe, e1, e2⟩ => ?_)
    have Zd : IsZip hd z p q .ellipsis := sd z _ D.jz.symm (sc.extBut z _ D.qz.symm (sb.extBut z _ D.iz.symm Za))
    have ne : e ≠ z := fun y => by
      subst y
      rw [Zd] at e1
      cases e1
      simp at e2
    exact wpAny_setField_rec Zd (by simp) fun hf _ sf => fin hf e _ (fun c o n1 n2 n3 n4 y => sf.extBut c o n1 (sd c o n4 (sc.extBut c o n2 (sb.extBut c o n3 (sa.extBut c o n1 y))))) ⟨oe, sf.extBut e _ ne e1, e2⟩
end
end Em

set_option Elab.async false
set_option linter.all false
set_option maxRecDepth 100000
set_option maxHeartbeats 4000000
/-! EmL: what is walked. -/
namespace Em
open PySem PySem.Spec PyProof.Rows L2

/-- the walk gives the trees ds, one by one, while what is told by C stands -/
def WalkD (K : PySem.W.Frag) (J : L2.It) (ds : List D) (C : Hp) : Prop := ∃ (G : Hp → Prop) (Y : Nat → Hp → V → Hp → Prop), Walk J ds.length G Y ∧ (∀ H, Sub C H → G H) ∧
  ∀ i H x H', i < ds.length → Sub C H → Y i H x H' → Sub H H' ∧ ∀ S : List Addr, (∀ a ∈ S, ∃ o, H a = some o) → Sub C (cutl S H) → ∃ d, ds[i]? = some d ∧ Is K (cutl S H') x d
def iJ (K : PySem.W.Frag) (ρ : Rho) (ds : List D) (m : Bool) (ρ' : Rho) : TI := fun σ H R => ∃ (M : List Addr) (F : Hp) (own : List Addr), Sl K M F own H σ ρ ∧
  ∀ (J : L2.It) (H' : Hp) (own' : List Addr), Pst K M F own H σ m ρ' H' own' → WalkD K J ds (cutl (own' ++ M) H') → R J H'
theorem PI_imp {X : Cx} {tg e : Expr} {t t' : TI} (h : PI X tg e t) (k : ∀ σ H R, t' σ H R → t σ H R) : PI X tg e t' := ⟨fun pins s σ H R I q => h.run pins s σ H R I (k σ H R q)⟩
section
variable {K : PySem.W.Frag} {C : Hp}
theorem wd_list {a : Addr} {xs : List V} {ds : List D} (h : Rd C a (.lst xs)) (i : Iss K C xs ds) : WalkD K (Itl K a) ds C := by
  refine ⟨fun H => SqL K H a xs, YAt xs, by have := walk_list (K := K) (a := a) (xs := xs); rw [i.len] at this; exact this, fun H hs => Or.inl (rd_sub hs h), fun j H x H' hj hs y => ?_⟩
  obtain ⟨rfl, y⟩ := y
  refine ⟨Sub.rf _, fun S dm hc => ?_⟩
  obtain ⟨d, e1, e2⟩ := (i.mono hc).getV y
  exact ⟨d, e1, e2⟩
theorem wd_tup {a : Addr} {xs : List V} {ds : List D} (h : SqT K C a xs) (i : Iss K C xs ds) : WalkD K (Itt K a) ds C := by
  refine ⟨fun H => SqT K H a xs, YAt xs, by have := walk_tup (K := K) (a := a) (xs := xs); rw [i.len] at this; exact this, fun H hs => seqT_sub hs h, fun j H x H' hj hs y => ?_⟩
  obtain ⟨rfl, y⟩ := y
  refine ⟨Sub.rf _, fun S dm hc => ?_⟩
  obtain ⟨d, e1, e2⟩ := (i.mono hc).getV y
  exact ⟨d, e1, e2⟩
theorem wd_str (s : List Nat) : WalkD K (Its ⟨s.toArray⟩) (s.map fun c => .str [c]) C := by
  refine ⟨_, _, by have := walk_str (z := ⟨s.toArray⟩); simp only [List.size_toArray] at this; rw [List.length_map]; exact this, fun H hs => trivial, fun j H x H' hj hs y => ?_⟩
  obtain ⟨rfl, c, y, rfl⟩ := y
  refine ⟨Sub.rf _, fun S dm hc => ?_⟩
  exact ⟨.str [c], by rw [List.getElem?_map]; simp only [List.getElem?_toArray] at y; rw [y]; rfl, Is.str [c]⟩
theorem wd_range {lo : Int} {n : Nat} : WalkD K (Itr lo n) (rngI lo n 1) C := by
  have hl : (rngI lo n 1).length = n := by unfold rngI; rw [List.length_map, List.length_range]
  refine ⟨_, _, by rw [hl]; exact walk_range, fun H hs => trivial, fun j H x H' hj hs y => ?_⟩
  obtain ⟨rfl, rfl⟩ := y
  rw [hl] at hj
  refine ⟨Sub.rf _, fun S dm hc => ⟨.int (lo + (j : Nat) * 1), ?_, by rw [Int.mul_one]; exact .int _⟩⟩
  unfold rngI
  rw [List.getElem?_map, List.getElem?_range hj]; rfl
theorem wd_rangeC {lo c : Int} {n : Nat} : WalkD K (Itc lo c n) (rngI lo n c) C := by
  have hl : (rngI lo n c).length = n := by unfold rngI; rw [List.length_map, List.length_range]
  refine ⟨_, _, by rw [hl]; exact walk_rangeC, fun H hs => trivial, fun j H x H' hj hs y => ?_⟩
  obtain ⟨rfl, rfl⟩ := y
  rw [hl] at hj
  refine ⟨Sub.rf _, fun S dm hc => ⟨.int (lo + (j : Nat) * c), ?_, .int _⟩⟩
  unfold rngI
  rw [List.getElem?_map, List.getElem?_range hj]; rfl
theorem enumD_get : ∀ {ds : List D} {n i : Nat} {d : D}, ds[i]? = some d → (enumD n ds)[i]? = some (.tup [.int ((n + i : Nat) : Int), d])
  | [], _, _, _, h => by simp at h
  | e :: ds, n, 0, d, h => by
    have h : e = d := Option.some.inj h
    rw [h]; rfl
  | e :: ds, n, i + 1, d, h => by
    have q := enumD_get (ds := ds) (n := n + 1) (i := i) (d := d) (by simpa using h)
    show (enumD (n + 1) ds)[i]? = _
    rw [q, Nat.add_right_comm, Nat.add_assoc]
theorem enumD_len : ∀ {ds : List D} {n : Nat}, (enumD n ds).length = ds.length
  | [], _ => rfl
  | _ :: ds, n => congrArg (· + 1) (enumD_len (ds := ds) (n := n + 1))
theorem wd_enum {a : Addr} {xs : List V} {ds : List D} (h : Rd C a (.lst xs)) (i : Iss K C xs ds) : WalkD K (Ite K a) (enumD 0 ds) C := by
  refine ⟨fun H => SqL K H a xs, _, by have := walk_enum (K := K) (a := a) (xs := xs); rw [enumD_len, ← i.len]; exact this, fun H hs => Or.inl (rd_sub hs h), fun j H x H' hj hs y => ?_⟩
  obtain ⟨T, u, w, rfl, hT, rfl, e1, e2⟩ := y
  cases e1
  refine ⟨Sub.new hT, fun S dm hc => ?_⟩
  obtain ⟨d, e3, e4⟩ := (i.mono hc).getV e2
  obtain ⟨_, _, n1, n2⟩ := new_cut (o := .tup [.int (j : Nat), w]) dm hT
  refine ⟨_, enumD_get e3, ?_⟩
  rw [Nat.zero_add]
  exact .tup (.inl (.inl n1)) (.cons (.int _) (.one (e4.mono n2)))
end
section
variable {X : Cx} {tg : Expr} {e a b c : Expr} {p pos : Pos} {ρ ρ' : Rho} {d : D} {ds : List D} {m : Bool} {es : List Expr}
theorem pi_ex (h : PE X e (tJ X.K ρ (.im d) m ρ')) (hw : (T.im d).walk = some ds) : PI X tg e (iJ X.K ρ ds m ρ') := by
  cases d with
  | lst xs =>
    cases hw
    refine PI_imp (pi_list h) fun σ H R q => ?_
    obtain ⟨M, F, own, S, q⟩ := q
    refine ⟨M, F, own, S, fun v H' own' P V1 => ?_⟩
    obtain ⟨a, xs, rfl, h1, h2⟩ := V1.is.lst_v
    exact ⟨a, rfl, ⟨xs, .inl (rd_sub cut_sub h1)⟩, q _ H' own' P (wd_list h1 h2)⟩
  | tup xs =>
    cases hw
    refine PI_imp (pi_tup h) fun σ H R q => ?_
    obtain ⟨M, F, own, S, q⟩ := q
    refine ⟨M, F, own, S, fun v H' own' P V1 => ?_⟩
    obtain ⟨a, xs, rfl, h1, h2⟩ := V1.is.tup_v
    exact ⟨a, rfl, ⟨xs, seqT_sub cut_sub h1⟩, q _ H' own' P (wd_tup h1 h2)⟩
  | str s =>
    cases hw
    refine PI_imp (pi_str h) fun σ H R q => ?_
    obtain ⟨M, F, own, S, q⟩ := q
    refine ⟨M, F, own, S, fun v H' own' P V1 => ?_⟩
    exact ⟨_, V1.is.str_v, q _ H' own' P (wd_str s)⟩
  | _ => cases hw
theorem okI_of {i : Int} (h : okI i = true) : -(10 ^ 15) < i ∧ i < 10 ^ 15 := by
  obtain ⟨h1, h2⟩ := Bool.and_eq_true_iff.mp h
  exact ⟨of_decide_eq_true h1, of_decide_eq_true h2⟩
theorem vls_one {C H : Hp} {K : PySem.W.Frag} {vs : List V} {i : Int} (h : Vls K C H vs [.im (.int i)]) : vs = [.int i] := by
  obtain ⟨v, rfl, V1⟩ := h.one
  rw [V1.is.int_v]
theorem vls_two {C H : Hp} {K : PySem.W.Frag} {vs : List V} {i j : Int} (h : Vls K C H vs [.im (.int i), .im (.int j)]) : vs = [.int i, .int j] := by
  obtain ⟨v, w, rfl, V1, V2⟩ := h.two
  rw [V1.is.int_v, V2.is.int_v]
theorem vls_three {C H : Hp} {K : PySem.W.Frag} {vs : List V} {i j k : Int} (h : Vls K C H vs [.im (.int i), .im (.int j), .im (.int k)]) : vs = [.int i, .int j, .int k] := by
  obtain ⟨v, w, z, rfl, V1, V2, V3⟩ := h.three
  rw [V1.is.int_v, V2.is.int_v, V3.is.int_v]
theorem rng2_ok {i j : Int} (h : rng2 i j = some ds) : (-(2 ^ 62) ≤ i ∧ i < 2 ^ 62 ∧ -(2 ^ 62) ≤ j ∧ j < 2 ^ 62) ∧ ds = rngI i (j - i).toNat 1 := by
  unfold rng2 at h
  split at h
  · rename_i hc
    cases h
    obtain ⟨h1, h2⟩ := Bool.and_eq_true_iff.mp hc
    have := okI_of h1
    have := okI_of h2
    exact ⟨by omega, rfl⟩
  · cases h
theorem pi_r1 {n : Int} (hg : Gl X "range") (hm : X.mg "range" = none) (hn : noStar [a] = true) (h : PEs X [a] ρ [.im (.int n)] m ρ') (hr : rng2 0 n = some ds) : PI X tg (.Call (.Name "range" p) [a] [] pos) (iJ X.K ρ ds m ρ') := by
  obtain ⟨h1, rfl⟩ := rng2_ok hr
  refine PI_imp (pi_range1 hg hm (h.pa hn) (star_cons hn _)) fun σ H R q => ?_
  obtain ⟨M, F, own, S, q⟩ := q
  refine ⟨M, F, own, S, fun vs H' own' P V1 => ⟨n, vls_one V1, h1.2.2.1, h1.2.2.2, ?_⟩⟩
  have := q (Itr 0 n.toNat) H' own' P (by rw [Int.sub_zero]; exact wd_range)
  exact this
theorem pi_r2 {i n : Int} (hg : Gl X "range") (hm : X.mg "range" = none) (hn : noStar [a, b] = true) (h : PEs X [a, b] ρ [.im (.int i), .im (.int n)] m ρ') (hr : rng2 i n = some ds) : PI X tg (.Call (.Name "range" p) [a, b] [] pos) (iJ X.K ρ ds m ρ') := by
  obtain ⟨h1, rfl⟩ := rng2_ok hr
  refine PI_imp (pi_range2 hg hm (h.pa hn) (by rw [star_cons hn, star_cons (star_tail hn)]; rfl) (star_cons (star_tail hn) _)) fun σ H R q => ?_
  obtain ⟨M, F, own, S, q⟩ := q
  exact ⟨M, F, own, S, fun vs H' own' P V1 => ⟨i, n, vls_two V1, h1, q (Itr i (n - i).toNat) H' own' P wd_range⟩⟩
theorem pi_r3 {i n k : Int} (hg : Gl X "range") (hm : X.mg "range" = none) (hn : noStar [a, b, c] = true) (h : PEs X [a, b, c] ρ [.im (.int i), .im (.int n), .im (.int k)] m ρ') (hr : rng3 i n k = some ds) : PI X tg (.Call (.Name "range" p) [a, b, c] [] pos) (iJ X.K ρ ds m ρ') := by
  have hk : RgC i n k (i - n).toNat ∧ ds = rngI i (i - n).toNat k := by
    unfold rng3 at hr
    split at hr
    · rename_i hc
      cases hr
      obtain ⟨hc, h4⟩ := Bool.and_eq_true_iff.mp hc
      obtain ⟨h1, h2⟩ := Bool.and_eq_true_iff.mp hc
      have := okI_of h1
      have := okI_of h2
      obtain rfl := of_decide_eq_true h4
      exact ⟨RgC.neg (by omega) (by omega) (by omega) (by omega), rfl⟩
    · cases hr
  obtain ⟨h1, rfl⟩ := hk
  refine PI_imp (pi_range3 hg hm (h.pa hn) (star_cons hn _) (back_none (star_tail hn))) fun σ H R q => ?_
  obtain ⟨M, F, own, S, q⟩ := q
  exact ⟨M, F, own, S, fun vs H' own' P V1 => ⟨i, n, k, _, vls_three V1, h1, q (Itc i k _) H' own' P wd_rangeC⟩⟩
theorem pi_en {elts : List Expr} {kk : Nat} {tpos : Pos} (hg : Gl X "enumerate") (hm : X.mg "enumerate" = none) (hn : noStar [a] = true) (h : PEs X [a] ρ [.im (.lst ds)] m ρ') : PI X (.Tuple elts kk tpos) (.Call (.Name "enumerate" p) [a] [] pos) (iJ X.K ρ (enumD 0 ds) m ρ') := by
  refine PI_imp (pi_enum hg hm (h.pa hn) (star_cons hn _)) fun σ H R q => ?_
  obtain ⟨M, F, own, S, q⟩ := q
  refine ⟨M, F, own, S, fun vs H' own' P W1 => ?_⟩
  obtain ⟨v, rfl, V1⟩ := Vls.one W1
  obtain ⟨a, xs, rfl, h1, h2⟩ := V1.is.lst_v
  exact ⟨a, xs, rfl, .inl (rd_sub cut_sub h1), q _ H' own' P (wd_enum h1 h2)⟩
end
end Em

set_option Elab.async false
set_option linter.all false
set_option maxRecDepth 100000
set_option maxHeartbeats 4000000
/-! EmV: zip of two things, each a list or a tuple. -/
namespace Em
open PySem PySem.Spec PyProof.Rows L2

/-- a list (true) or a tuple (false) of the reading -/
def SqB (K : PySem.W.Frag) (H : Hp) (t : Bool) (a : Addr) (xs : List V) : Prop := match t with
  | true => SqL K H a xs
  | false => SqT K H a xs
def IsB (h : Heap) (t : Bool) (a : Addr) (xs : Array Value) : Prop := match t with
  | true => h.IsList a xs
  | false => h.IsTuple a xs
def stpB {P : Program} {w : World} (t : Bool) (it l : Addr) : Stp P w it [l] := match t with
  | true => stpList it l
  | false => stpTup it l
section
variable {P : Program} {w : World}
theorem stpB_val {t : Bool} {it l : Addr} {h : Heap} {i : Nat} {u : Value} : (stpB (P := P) (w := w) t it l).val h i u ↔ ∃ xs, IsB h t l xs ∧ xs[i]? = some u := by
  cases t <;> exact Iff.rfl
theorem stpB_no {t : Bool} {it l : Addr} {h : Heap} {i : Nat} : (stpB (P := P) (w := w) t it l).no h i ↔ ∃ xs, IsB h t l xs ∧ xs[i]? = none := by
  cases t <;> exact Iff.rfl
theorem isB_inj {h : Heap} {t : Bool} {l : Addr} {xs ys : Array Value} (a : IsB h t l xs) (b : IsB h t l ys) : xs = ys := by
  cases t <;>
  · obtain ⟨o1, e1, _, n1, d1⟩ := a
    obtain ⟨o2, e2, _, n2, d2⟩ := b
    rw [e1] at e2
    cases e2
    rw [d1] at d2
    cases d2
    rfl
theorem isB_lt {h : Heap} {t : Bool} {l : Addr} {xs : Array Value} (a : IsB h t l xs) : l < h.objs.size := by
  cases t <;>
  · obtain ⟨o1, e1, _⟩ := a
    exact Heap.lt_size e1
end
section
variable {X : Cx} {pins : List (Addr × Obj)} {σ : L2.St} {H : Hp} {s : Shared} {t : Bool} {a : Addr} {xs ys : List V}
theorem inv_sqB (I : Inv X pins σ H s) (q : SqB X.K H t a xs) : ∃ its : List Value, Vals xs its ∧ IsB s.heap t a its.toArray := by
  cases t with
  | true =>
    obtain ⟨its, rv, p, _⟩ := I.list q
    exact ⟨its, rv, p.isList⟩
  | false =>
    obtain ⟨its, rv, p, _⟩ := I.tuple q
    exact ⟨its, rv, p⟩
theorem inv_sqB_inj (I : Inv X pins σ H s) (q : SqB X.K H t a xs) (r : SqB X.K H t a ys) : xs = ys := by
  cases t with
  | true => exact I.list_inj q r
  | false => exact I.tuple_inj q r
end
/-- both as they stand at each turn, the items in new pairs -/
def ItzB (K : PySem.W.Frag) (t : Bool) (a : Addr) (u : Bool) (b : Addr) : L2.It :=
  ⟨fun i H => (∃ xs x, SqB K H t a xs ∧ xs[i]? = some x) ∧ ∃ ys y, SqB K H u b ys ∧ ys[i]? = some y,
    fun i H v H' => ∃ T x y, v = .ref T ∧ H T = none ∧ H' = upd H T (.tup [x, y]) ∧ (∀ xs, SqB K H t a xs → xs[i]? = some x) ∧ ∀ ys, SqB K H u b ys → ys[i]? = some y,
    fun i H => (∃ xs, SqB K H t a xs ∧ xs.length ≤ i ∧ ∃ ys, SqB K H u b ys) ∨ ((∃ xs x, SqB K H t a xs ∧ xs[i]? = some x) ∧ ∃ ys, SqB K H u b ys ∧ ys.length ≤ i)⟩
/-- how the objects of a zip stand at turn i -/
def ZipSt (P : Program) (w : World) (z p q i1 i2 : Addr) (t : Bool) (a : Addr) (u : Bool) (b : Addr) (i : Nat) (h : Heap) : Prop :=
  (IsZip h z p q .none ∧ IsPair h p (.ref i1) (.ref i2) ∧ ∃ x y, IsPair h q x y) ∧ ((stpB (P := P) (w := w) t i1 a).st i h ∧ (stpB (P := P) (w := w) u i2 b).st i h)
section
variable {P : Program} {w : World} {K : PySem.W.Frag} {elts : List Expr} {kk : Nat} {tpos : Pos} {a b z p q i1 i2 : Addr} {t u : Bool}
theorem five {c z p q i1 i2 : Addr} (h : c ∈ [z, p, q, i1, i2]) : c = z ∨ c = p ∨ c = q ∨ c = i1 ∨ c = i2 := by simpa using h
theorem zipSt_get {i : Nat} {h : Heap} (st : ZipSt P w z p q i1 i2 t a u b i h) : ∀ c ∈ [z, p, q, i1, i2], ∃ o, h.get? c = some o ∧ ∀ v, o.data ≠ .cell v := by
  obtain ⟨⟨hz, hp, x, y, hq⟩, s1, s2⟩ := st
  intro c hc
  rcases five hc with e | e | e | e | e
  · rw [e]; exact ⟨_, hz, fun v q => nomatch q⟩
  · rw [e]; exact ⟨_, hp, fun v q => nomatch q⟩
  · rw [e]; exact ⟨_, hq, fun v q => nomatch q⟩
  · rw [e]; exact (stpB (P := P) (w := w) t i1 a).obj s1
  · rw [e]; exact (stpB (P := P) (w := w) u i2 b).obj s2
theorem turn_zipB (D : Apart z p q i1 i2 ([a] ++ [b])) : Turn P w K (.Tuple elts kk tpos) (ItzB K t a u b) [z, p, q, i1, i2] z (ZipSt P w z p q i1 i2 t a u b) where
  mem := by simp
  obj := fun i h st c hc => zipSt_get st c hc
  keep := fun i h h' st k => by
    obtain ⟨⟨hz, hp, x, y, hq⟩, s1, s2⟩ := st
    exact ⟨⟨k z (by simp) _ hz, k p (by simp) _ hp, x, y, k q (by simp) _ hq⟩, (stpB t i1 a).stay s1 fun o e => k i1 (by simp) o e, (stpB u i2 b).stay s2 fun o e => k i2 (by simp) o e⟩
  item := by
    intro X hP hw hK hc i pins s σ H E I hf st hg
    subst hP hw hK
    have gets := zipSt_get st
    obtain ⟨⟨hz, hp, x0, y0, hq⟩, s1, s2⟩ := st
    obtain ⟨⟨xs, x, hqx, hx⟩, ys, y, hqy, hy⟩ := hg
    obtain ⟨its, rv, p1⟩ := inv_sqB I hqx
    obtain ⟨its2, rv2, p2⟩ := inv_sqB I hqy
    obtain ⟨u1, hu1, ru1⟩ := rv.get hx
    obtain ⟨u2, hu2, ru2⟩ := rv2.get hy
    have w1 : ∃ u, (stpB (P := X.prog) (w := X.w) t i1 a).val s.heap i u := ⟨u1, stpB_val.mpr ⟨_, p1, by simpa using hu1⟩⟩
    have w2 : ∃ v, (stpB (P := X.prog) (w := X.w) u i2 b).val s.heap i v := ⟨u2, stpB_val.mpr ⟨_, p2, by simpa using hu2⟩⟩
    have hzl : z < s.heap.objs.size := Heap.lt_size hz
    have hT : s.TypeIs (.ref z) "zip" := ⟨_, hz, rfl⟩
    unfold pyNext
    refine wpAny_bind (wpAny_attempt (wpAny_callSpecial?_slot (name := Str.ofString "__next__") hT F.slot_zip_next (wpAny_call_entry F.slot_zip_next hT F.entry_zip_next
      (zip_item (stpB t i1 a) (stpB u i2 b) D hz hp hq s1 s2 w1 w2 fun v1 v2 h' tk e1 e2 z' q' s1' s2' hN hk => wpAny_pure ?_) (F.args_zip_next_1 _))))
    obtain ⟨b1, m1, m2⟩ := stpB_val.mp e1
    obtain ⟨b2, m3, m4⟩ := stpB_val.mp e2
    cases isB_inj m1 p1
    cases isB_inj m3 p2
    have ev1 : v1 = u1 := by
      rw [List.getElem?_toArray, hu1] at m2
      exact (Option.some.inj m2).symm
    have ev2 : v2 = u2 := by
      rw [List.getElem?_toArray, hu2] at m4
      exact (Option.some.inj m4).symm
    subst ev1 ev2
    refine ⟨_, rfl, wpAny_letOwnedTupleGo_zip (s := { s with heap := h', toks := tk }) z' fun h2 z2 sb => ?_⟩
    have hN2 : IsPair h2 s.heap.objs.size v1 v2 := (sb.2 _ (Nat.ne_of_gt hzl)).trans hN
    have new : ObjOk X.prog X.w (upd H s.heap.objs.size (.tup [x, y])) h2 s.heap.objs.size (.tup [x, y]) :=
      ⟨by show 2 ≤ sizeLine; decide, [v1, v2], .cons ru1 (.cons ru2 .nil), ⟨_, hN2, rfl, _, rfl⟩⟩
    have kept : ∀ c o, c ∉ [z, p, q, i1, i2] → s.heap.get? c = some o → h2.get? c = some o := fun c o n e =>
      (sb.2 c (fun y => n (by simp [y]))).trans (hk c o (fun y => n (by simp [y])) (fun y => n (by simp [y])) (fun y => n (by simp [y])) (fun y => n (by simp [y])) e)
    have I1 : Inv X pins σ (upd H s.heap.objs.size (.tup [x, y])) { s with heap := h2, toks := tk } := I.turnedNew (t' := tk) (ch := [z, p, q, i1, i2]) kept hf (Nat.le_refl _) new
    refine ⟨.ref s.heap.objs.size, _, I1, rfl, ⟨_, x, y, rfl, I.hok.fresh (Nat.le_refl _), rfl, fun l hl => by rw [inv_sqB_inj I hl hqx]; exact hx, fun l hl => by rw [inv_sqB_inj I hl hqy]; exact hy⟩,
      ⟨⟨z2, (sb.2 _ D.pz).trans (hk _ _ D.pz D.pq D.pi D.pj hp), v1, v2, (sb.2 _ D.qz).trans q'⟩, (stpB t i1 a).stay s1' fun o e => (sb.2 _ D.iz).trans e, (stpB u i2 b).stay s2' fun o e => (sb.2 _ D.jz).trans e⟩, fun c hcm => ?_⟩
    obtain ⟨o, e, _⟩ := gets c hcm
    rw [upd_ne (Nat.ne_of_lt (Heap.lt_size e))]
    exact (hf c hcm).1
  done := by
    intro X hP hw hK hc i pins s σ H E I hf st hg
    subst hP hw hK
    obtain ⟨⟨hz, hp, x0, y0, hq⟩, s1, s2⟩ := st
    have ends : (stpB (P := X.prog) (w := X.w) t i1 a).no s.heap i ∨ ((∃ u, (stpB (P := X.prog) (w := X.w) t i1 a).val s.heap i u) ∧ (stpB (P := X.prog) (w := X.w) u i2 b).no s.heap i) := by
      rcases hg with ⟨xs, hqx, hl, _⟩ | ⟨⟨xs, x, hqx, hx⟩, ys, hqy, hl⟩
      · obtain ⟨its, rv, p1⟩ := inv_sqB I hqx
        have := rv.length
        exact .inl (stpB_no.mpr ⟨_, p1, by simp; omega⟩)
      · obtain ⟨its, rv, p1⟩ := inv_sqB I hqx
        obtain ⟨its2, rv2, p2⟩ := inv_sqB I hqy
        obtain ⟨u1, hu1, ru1⟩ := rv.get hx
        have := rv2.length
        exact .inr ⟨⟨u1, stpB_val.mpr ⟨_, p1, by simpa using hu1⟩⟩, stpB_no.mpr ⟨_, p2, by simp; omega⟩⟩
    have hT : s.TypeIs (.ref z) "zip" := ⟨_, hz, rfl⟩
    unfold pyNext
    refine wpAny_bind (wpAny_attempt (wpAny_callSpecial?_slot (name := Str.ofString "__next__") hT F.slot_zip_next (wpAny_call_entry F.slot_zip_next hT F.entry_zip_next
      (zip_stop (stpB t i1 a) (stpB u i2 b) (I.ok.hd hc) D hz hp hq s1 s2 ends fun h' e tk hk ⟨o, ho, hcls⟩ => ?_) (F.args_zip_next_1 _))))
    refine wpAny_bind (wpAny_isInstance (T := "StopIteration") (b := true) ⟨o, ho, hcls⟩ isSubtype_stop (wpAny_pure ⟨rfl, ?_⟩))
    exact I.turnedL (t' := tk) (ch := [z, p, q, i1, i2]) (fun c o n e => hk c o (fun y => n (by simp [y])) (fun y => n (by simp [y])) (fun y => n (by simp [y])) (fun y => n (by simp [y])) e) hf
  self := fun A i s Q E st h => wpAny_pyIter_zip st.1.1 h
end
/-! ### the call -/
def itn (t : Bool) : String := match t with
  | true => "list_iterator"
  | false => "tuple_iterator"
abbrev zb1 (h : Heap) (t : Bool) (a : Addr) : Heap := h.push { cls := .type (itn t), data := .fields #[.ref a, .int 0 0] }
abbrev zb2 (h : Heap) (t : Bool) (a : Addr) (u : Bool) (b : Addr) : Heap := (zb1 h t a).push { cls := .type (itn u), data := .fields #[.ref b, .int 0 0] }
abbrev zb3 (h : Heap) (t : Bool) (a : Addr) (u : Bool) (b : Addr) : Heap := (zb2 h t a u b).push { cls := .type "tuple", data := .seq #[.ref h.objs.size, .ref (zb1 h t a).objs.size] }
abbrev zb4 (h : Heap) (t : Bool) (a : Addr) (u : Bool) (b : Addr) : Heap := (zb3 h t a u b).push { cls := .type "tuple", data := .seq #[.none, .none] }
abbrev zb5 (h : Heap) (t : Bool) (a : Addr) (u : Bool) (b : Addr) : Heap := (zb4 h t a u b).push { cls := .type "zip", data := .fields #[.none, .bool false, .bool false, .ref (zb2 h t a u b).objs.size, .ref (zb3 h t a u b).objs.size] }
theorem meets_zb (t u : Bool) (a b : Addr) (xs ys : Array Value) : Meets (Builtin.«zip.__new__» ⟨[.type "zip", .ref a, .ref b], []⟩) (fun _ R s => IsB s.heap t a xs ∧ IsB s.heap u b ys ∧
      R (.ok (.ret (.ref (zb4 s.heap t a u b).objs.size))) { s with heap := zb5 s.heap t a u b }) := by
  refine .of_wp fun prog w A R s h => ?_
  obtain ⟨hp, g, d, tk, os⟩ := s
  obtain ⟨ha, hb, h⟩ := h
  have hsub := sub_zip
  cases t <;> cases u
  · have i1 : Heap.IsTuple (Shared.heap ⟨hp, g, d, tk, os⟩) a xs := ha
    have i2 : Heap.IsTuple (Shared.heap ⟨hp.push { cls := .type "tuple_iterator", data := .fields #[.ref a, .int 0 0] }, g, d, tk, os⟩) b ys := Heap.IsTuple.push hb _
    wp_walk using wpAny_pyIter_tuple i1, wpAny_pyIter_tuple i2
    exact ⟨_, rfl, h⟩
  · have i1 : Heap.IsTuple (Shared.heap ⟨hp, g, d, tk, os⟩) a xs := ha
    have i2 : Heap.IsList (Shared.heap ⟨hp.push { cls := .type "tuple_iterator", data := .fields #[.ref a, .int 0 0] }, g, d, tk, os⟩) b ys := Heap.IsList.push hb _
    wp_walk using wpAny_pyIter_tuple i1, wpAny_pyIter_list i2
    exact ⟨_, rfl, h⟩
  · have i1 : Heap.IsList (Shared.heap ⟨hp, g, d, tk, os⟩) a xs := ha
    have i2 : Heap.IsTuple (Shared.heap ⟨hp.push { cls := .type "list_iterator", data := .fields #[.ref a, .int 0 0] }, g, d, tk, os⟩) b ys := Heap.IsTuple.push hb _
    wp_walk using wpAny_pyIter_list i1, wpAny_pyIter_tuple i2
    exact ⟨_, rfl, h⟩
  · have i1 : Heap.IsList (Shared.heap ⟨hp, g, d, tk, os⟩) a xs := ha
    have i2 : Heap.IsList (Shared.heap ⟨hp.push { cls := .type "list_iterator", data := .fields #[.ref a, .int 0 0] }, g, d, tk, os⟩) b ys := Heap.IsList.push hb _
    wp_walk using wpAny_pyIter_list i1, wpAny_pyIter_list i2
    exact ⟨_, rfl, h⟩
theorem stpB_st {P : Program} {w : World} {t : Bool} {it l : Addr} {h : Heap} {o : Obj} (e : h.get? it = some o) (hc : o.cls = .type (itn t)) (hd : o.data = .fields #[.ref l, .int 0 0]) : (stpB (P := P) (w := w) t it l).st 0 h := by
  cases t <;> exact ⟨o, e, hc, hd⟩
theorem call_zb {P : Program} {w : World} {A : Around} {E : Value → Shared → Prop} {s : Shared} {t u : Bool} {a b : Addr} {xs ys : Array Value} {Q : Value → Shared → Prop} (ha : IsB s.heap t a xs) (hb : IsB s.heap u b ys)
    (h : ∀ h', ZipSt P w (s.heap.objs.size + 4) (s.heap.objs.size + 2) (s.heap.objs.size + 3) s.heap.objs.size (s.heap.objs.size + 1) t a u b 0 h' → (∀ c o, s.heap.get? c = some o → h'.get? c = some o) → Q (.ref (s.heap.objs.size + 4)) { s with heap := h' }) :
    wpAny (model P w) A (call (.type "zip") [.ref a, .ref b]) Q E s := by
  refine callType_new F.called_zip (by decide) (F.typeCall_zip_2 _ _) (F.newCall_zip_2 _ _) (fun o => F.args_object_init_3 o _ _) F.entry_zip_new (meets_zb t u a b xs ys) ⟨ha, hb, ?_⟩
  have n1 : (zb1 s.heap t a).objs.size = s.heap.objs.size + 1 := Heap.size_push ..
  have n2 : (zb2 s.heap t a u b).objs.size = s.heap.objs.size + 2 := by rw [Heap.size_push, n1]
  have n3 : (zb3 s.heap t a u b).objs.size = s.heap.objs.size + 3 := by rw [Heap.size_push, n2]
  have n4 : (zb4 s.heap t a u b).objs.size = s.heap.objs.size + 4 := by rw [Heap.size_push, n3]
  have e5 : (zb5 s.heap t a u b).get? (zb4 s.heap t a u b).objs.size = some _ := Heap.get?_push_size _ rfl
  have e4 : (zb5 s.heap t a u b).get? (zb3 s.heap t a u b).objs.size = some _ := Heap.get?_push_of_some _ (Heap.get?_push_size _ rfl)
  have e3 : (zb5 s.heap t a u b).get? (zb2 s.heap t a u b).objs.size = some _ := Heap.get?_push_of_some _ (Heap.get?_push_of_some _ (Heap.get?_push_size _ rfl))
  have e2 : (zb5 s.heap t a u b).get? (zb1 s.heap t a).objs.size = some _ := Heap.get?_push_of_some _ (Heap.get?_push_of_some _ (Heap.get?_push_of_some _ (Heap.get?_push_size _ rfl)))
  have e1 : (zb5 s.heap t a u b).get? s.heap.objs.size = some _ := Heap.get?_push_of_some _ (Heap.get?_push_of_some _ (Heap.get?_push_of_some _ (Heap.get?_push_of_some _ (Heap.get?_push_size _ rfl))))
  show _ ∧ _
  rw [n2, n3, n4] at e5
  rw [n1, n2] at e3
  rw [n3] at e4
  rw [n1] at e2
  rw [n4]
  exact ⟨⟨_, e5, rfl⟩, h _ ⟨⟨e5, e3, _, _, e4⟩, stpB_st e1 rfl rfl, stpB_st e2 rfl rfl⟩ fun c o x =>
    Heap.get?_push_of_some _ (Heap.get?_push_of_some _ (Heap.get?_push_of_some _ (Heap.get?_push_of_some _ (Heap.get?_push_of_some _ x))))⟩
theorem apart_new (n a b : Nat) (h1 : a < n) (h2 : b < n) : Apart (n + 4) (n + 2) (n + 3) n (n + 1) ([a] ++ [b]) := by
  have two : ∀ c ∈ [a] ++ [b], c < n := fun c hc => by
    have e : c = a ∨ c = b := by simpa using hc
    rcases e with e | e <;> rw [e] <;> assumption
  have ne : ∀ k, ∀ c ∈ [a] ++ [b], c ≠ n + k := fun k c hc => by
    have : c < n := two c hc
    omega
  constructor
  all_goals first
    | exact ne _
    | exact ne 0
    | (show (_ : Nat) ≠ (_ : Nat); omega)
def iZb (K : PySem.W.Frag) (ta : TA) : TI := fun σ H R => ta σ H fun vs H1 => ∃ t u a b xs ys, vs = [.ref a, .ref b] ∧ SqB K H1 t a xs ∧ SqB K H1 u b ys ∧ R (ItzB K t a u b) H1
theorem pi_zb {X : Cx} {e e2 : Expr} {ta : TA} {p pos tpos : Pos} {elts : List Expr} {kk : Nat} (hg : Gl X "zip") (hm : X.mg "zip" = none) (ha : PA X [e, e2] ta)
    (hs : starEach [e, e2] X.env = (false, eval e X.env) :: starEach [e2] X.env) (hpl : (backTo pos (starEach [e2] X.env)).any (·.1) = false) :
    PI X (.Tuple elts kk tpos) (.Call (.Name "zip" p) [e, e2] [] pos) (iZb X.K ta) := by
  refine ⟨fun pins s σ H R I h => ?_⟩
  refine Call_ (ld_blt I hg hm PyProof.Rows.boot_zip (PyProof.Rows.callWith_type1 (thn (ha.run pos pins s σ H _ I h) fun us s1 ⟨vs, H1, I1, r1, q1⟩ => ?_) hs hpl))
  obtain ⟨t, u, a, b, xs, ys, ex, hqx, hqy, q⟩ := q1
  subst ex
  cases r1 with
  | cons r rr =>
    cases rr with
    | cons r' rr =>
      cases rr
      cases r
      cases r'
      obtain ⟨its, rv, p1⟩ := inv_sqB I1 hqx
      obtain ⟨its2, rv2, p2⟩ := inv_sqB I1 hqy
      refine call_zb (P := X.prog) (w := X.w) p1 p2 fun h' st hk => wpAny_pyIter_zip st.1.1 ?_
      refine ⟨_, _, _, _, H1, rfl, I1.kept (t' := s1.toks) hk, turn_zipB (apart_new _ a b (isB_lt p1) (isB_lt p2)), st, fun c hcm => ?_, q⟩
      have hle : s1.heap.objs.size ≤ c := by
        rcases five hcm with e | e | e | e | e
        · rw [e]; exact Nat.le_add_right _ _
        · rw [e]; exact Nat.le_add_right _ _
        · rw [e]; exact Nat.le_add_right _ _
        · rw [e]; exact Nat.le_refl _
        · rw [e]; exact Nat.le_add_right _ _
      exact I1.fpOk hle (I1.hok.fresh hle)

/-! ### the trees it gives -/
theorem zipD_len : ∀ {ds es : List D}, (zipD ds es).length = min ds.length es.length
  | [], _ => by simp [zipD]
  | _ :: _, [] => by simp [zipD]
  | d :: ds, e :: es => by
    show (zipD ds es).length + 1 = _
    rw [zipD_len (ds := ds) (es := es), List.length_cons, List.length_cons, Nat.succ_min_succ]
theorem zipD_get : ∀ {ds es : List D} {i : Nat} {d e : D}, ds[i]? = some d → es[i]? = some e → (zipD ds es)[i]? = some (.tup [d, e])
  | [], _, _, _, _, h, _ => by simp at h
  | _ :: _, [], _, _, _, _, h => by simp at h
  | a :: ds, b :: es, 0, d, e, h, k => by
    have h : a = d := Option.some.inj h
    have k : b = e := Option.some.inj k
    rw [h, k]; rfl
  | a :: ds, b :: es, i + 1, d, e, h, k => zipD_get (ds := ds) (es := es) (i := i) (by simpa using h) (by simpa using k)
section
variable {K : PySem.W.Frag} {C : Hp} {t u : Bool} {a b : Addr} {xs ys : List V} {ds es : List D}
theorem wd_zb (h1 : ∀ H, Sub C H → SqB K H t a xs) (i1 : Iss K C xs ds) (h2 : ∀ H, Sub C H → SqB K H u b ys) (i2 : Iss K C ys es) : WalkD K (ItzB K t a u b) (zipD ds es) C := by
  have l1 := i1.len
  have l2 := i2.len
  refine ⟨fun H => SqB K H t a xs ∧ SqB K H u b ys, YPair (fun i => xs[i]?) (fun i => ys[i]?), ⟨fun i H hi q => ?_, fun H q => ?_, fun i H x H' hi q y => ?_⟩, fun H hs => ⟨h1 H hs, h2 H hs⟩, fun j H x H' hj hs y => ?_⟩
  · rw [zipD_len] at hi
    have k1 : i < xs.length := by omega
    have k2 : i < ys.length := by omega
    exact ⟨⟨xs, xs[i], q.1, by simp [k1]⟩, ys, ys[i], q.2, by simp [k2]⟩
  · rw [zipD_len]
    by_cases k1 : xs.length ≤ min ds.length es.length
    · exact .inl ⟨xs, q.1, k1, ys, q.2⟩
    · have k2 : min ds.length es.length < xs.length := by omega
      exact .inr ⟨⟨xs, xs[min ds.length es.length], q.1, by simp [k2]⟩, ys, q.2, by omega⟩
  · obtain ⟨T, v, w, e1, e2, e3, e4, e5⟩ := y
    exact ⟨T, v, w, e1, e2, e3, e4 xs q.1, e5 ys q.2⟩
  · obtain ⟨T, v, w, rfl, hT, rfl, e1, e2⟩ := y
    refine ⟨Sub.new hT, fun S dm hc => ?_⟩
    obtain ⟨d, g1, g2⟩ := (i1.mono hc).getV e1
    obtain ⟨e, g3, g4⟩ := (i2.mono hc).getV e2
    obtain ⟨_, _, n1, n2⟩ := new_cut (o := .tup [v, w]) dm hT
    exact ⟨_, zipD_get g1 g3, .tup (.inl (.inl n1)) (.cons (g2.mono n2) (.one (g4.mono n2)))⟩
end
theorem sqD_is {K : PySem.W.Frag} {C : Hp} {v : V} {d : D} {t : Bool} {ds : List D} (h : sqD d = some (t, ds)) (i : Is K C v d) : ∃ a xs, v = .ref a ∧ (∀ H, Sub C H → SqB K H t a xs) ∧ Iss K C xs ds := by
  cases d with
  | lst es =>
    cases h
    obtain ⟨a, xs, rfl, h1, h2⟩ := i.lst_v
    exact ⟨a, xs, rfl, fun H hs => .inl (rd_sub hs h1), h2⟩
  | tup es =>
    cases h
    obtain ⟨a, xs, rfl, h1, h2⟩ := i.tup_v
    exact ⟨a, xs, rfl, fun H hs => seqT_sub hs h1, h2⟩
  | _ => cases h
theorem sqB_up {K : PySem.W.Frag} {C : Hp} {t : Bool} {a : Addr} {xs : List V} (h : ∀ H, Sub C H → SqB K H t a xs) {H : Hp} (hs : Sub C H) : SqB K H t a xs := h H hs
theorem pi_zip2 {X : Cx} {e1 e2 : Expr} {p pos tpos : Pos} {elts : List Expr} {kk : Nat} {ρ ρ' : Rho} {d1 d2 : D} {t u : Bool} {ds es : List D} {m : Bool} (hg : Gl X "zip") (hm : X.mg "zip" = none) (hn : noStar [e1, e2] = true)
    (h : PEs X [e1, e2] ρ [.im d1, .im d2] m ρ') (k1 : sqD d1 = some (t, ds)) (k2 : sqD d2 = some (u, es)) : PI X (.Tuple elts kk tpos) (.Call (.Name "zip" p) [e1, e2] [] pos) (iJ X.K ρ (zipD ds es) m ρ') := by
  refine PI_imp (pi_zb hg hm (h.pa hn) (star_cons hn _) (back_none (star_tail hn))) fun σ H R q => ?_
  obtain ⟨M, F, own, S, q⟩ := q
  refine ⟨M, F, own, S, fun vs H' own' P W1 => ?_⟩
  obtain ⟨v, w, rfl, V1, V2⟩ := Vls.two W1
  obtain ⟨a, xs, rfl, a1, a2⟩ := sqD_is k1 V1.is
  obtain ⟨b, ys, rfl, b1, b2⟩ := sqD_is k2 V2.is
  exact ⟨t, u, a, b, xs, ys, rfl, a1 _ cut_sub, b1 _ cut_sub, q _ H' own' P (wd_zb a1 a2 b1 b2)⟩
end Em

set_option Elab.async false
set_option linter.all false
set_option maxRecDepth 100000
set_option maxHeartbeats 4000000
/-! EmM: what a def promises; lists lent and given back; the call of a def. -/
namespace Em
open PySem PySem.Spec PyProof.Rows L2

/-- the def g, called with vs in the heap H: L is what others own, fp what the arguments own -/
def Ctr (Φ : Fns) (g : Nat) (K : PySem.W.Frag) (vs : List V) (H : Hp) (Q : VK) : Prop := ∃ (L : List Addr) (ts : List T) (fp : List Addr) (t : T) (us : List T),
  Rps K (cutl (fp ++ L) H) H vs ts fp ∧ fp.Nodup ∧ (∀ a ∈ L, a ∉ fp ∧ ∃ o, H a = some o) ∧ Φ g ts = some (t, us) ∧
  ∀ (v : V) (H' : Hp) (f fp' : List Addr), Rps K (cutl ((f ++ fp') ++ L) H') H' (v :: vs) (t :: us) (f ++ fp') → Rp K (cutl ((f ++ fp') ++ L) H') H' v t f → Rps K (cutl ((f ++ fp') ++ L) H') H' vs us fp' → (f ++ fp').Nodup → (∀ a, a ∈ f ∨ a ∈ fp' → a ∈ fp ∨ H a = none) → Sub (cutl fp H) H' → Q v H'

/-- the arguments' values: of those that are lent the name's, of the others ws with the trees ts -/
inductive Ars (σ : Sg) : List Ar → List V → List V → List T → Prop
  | nil : Ars σ [] [] [] []
  | v {as : List Ar} {vs ws : List V} {ts : List T} {x : V} {t : T} : Ars σ as vs ws ts → Ars σ (.v t :: as) (x :: vs) (x :: ws) (t :: ts)
  | r {as : List Ar} {vs ws : List V} {ts : List T} {x : V} {i : Nat} : σ[i]? = some (some x) → Ars σ as vs ws ts → Ars σ (.r i :: as) (x :: vs) ws ts
section
variable {K : PySem.W.Frag} {M own : List Addr} {F F' H : Hp} {σ : Sg} {ρ : Rho}
/-- a slot's tree taken out of it -/
theorem Sl.take {i : Nat} {t : T} (S : Sl K M F own H σ ρ) (e : ρ[i]? = some (some t)) : ∃ v f own', σ[i]? = some (some v) ∧ Sl K (f ++ M) (cutl own' H) own' H σ (ρ.set i none) ∧ Rp K (cutl (own' ++ (f ++ M)) H) H v t f ∧ f.Nodup ∧ (∀ a, a ∈ own ↔ a ∈ own' ∨ a ∈ f) := by
  have hi : i < ρ.length := (List.getElem?_eq_some_iff.mp e).1
  obtain ⟨pre, g, post, ee, d, _, k2⟩ := S.rel.focus hi
  rcases d with ⟨z, _⟩ | ⟨v, u, z, hv, r⟩
  · rw [e] at z; cases z
  · rw [e] at z
    cases z
    have nd := S.nod
    rw [ee] at nd
    obtain ⟨n1, n2, n3⟩ := List.nodup_append.mp nd
    obtain ⟨n4, n5, n6⟩ := List.nodup_append.mp n1
    have mem : ∀ a, a ∈ own ↔ a ∈ pre ++ post ∨ a ∈ g := fun a => by rw [ee]; simp only [List.mem_append]; grind
    have hC : cutl (own ++ M) H = cutl ((pre ++ post) ++ (g ++ M)) H := cutl_congr fun a => by
      simp only [List.mem_append]
      have := mem a
      simp only [List.mem_append] at this
      grind
    have q := k2 (cutl ((pre ++ post) ++ (g ++ M)) H) H (some v) (by rw [hC]; exact Sub.rf _) (fun _ _ _ q => q)
    have hs : σ.set i (some v) = σ := set_same hv
    rw [hs] at q
    refine ⟨v, g, pre ++ post, hv, ⟨q, ?_, cut_sub, fun a ha => cutl_in ha, fun a ha => ?_⟩, by rw [← hC]; exact r, n5, mem⟩
    · rw [List.nodup_append]
      exact ⟨n4, n2, fun x hx y hy z => n3 x (List.mem_append_left _ hx) y hy z⟩
    · rcases List.mem_append.mp ha with z | z
      · obtain ⟨xs, q⟩ := r.dom a z
        refine ⟨.lst xs, ?_⟩
        rw [cutl_out ?_]
        · exact q
        · intro y
          rcases List.mem_append.mp y with y | y
          · exact n6 a y a z rfl
          · exact n3 a (List.mem_append_right _ z) a y rfl
      · obtain ⟨o, q⟩ := S.inF a z
        refine ⟨o, ?_⟩
        rw [cutl_out fun y => S.notM ((mem a).mpr (.inl y)) z]
        exact S.frame a o q
theorem take_all : ∀ {ars : List Ar} {vs ws : List V} {ts ts' : List T} {fp M own : List Addr} {F : Hp} {ρ ρ' : Rho}, Sl K (fp ++ M) F own H σ ρ → Rps K (cutl (own ++ (fp ++ M)) H) H ws ts fp → fp.Nodup → (∀ a ∈ fp, a ∉ M) → Ars σ ars vs ws ts → arVals ρ ars = some (ts', ρ') →
    ∃ own' fp', Sl K (fp' ++ M) (cutl own' H) own' H σ ρ' ∧ Rps K (cutl (own' ++ (fp' ++ M)) H) H vs ts' fp' ∧ fp'.Nodup ∧ (∀ a, a ∈ own ∨ a ∈ fp ↔ a ∈ own' ∨ a ∈ fp')
  | [], vs, ws, ts, ts', fp, M, own, F, ρ, ρ', S, r, nd, nM, a, e => by
    cases a
    cases r
    cases e
    exact ⟨own, [], S.self, .nil, List.nodup_nil, fun _ => Iff.rfl⟩
  | .v t :: ars, vs0, ws0, ts0, ts', fp, M, own, F, ρ, ρ', S, r0, nd, nM, a0, e => by
    cases a0 with
    | v a =>
      rename_i vs ws ts x
      obtain ⟨f, g, rfl, r, rs⟩ : ∃ f g, fp = f ++ g ∧ Rp K (cutl (own ++ (fp ++ M)) H) H x t f ∧ Rps K (cutl (own ++ (fp ++ M)) H) H ws ts g := by
        cases r0 with
        | cons r rs => exact ⟨_, _, rfl, r, rs⟩
      unfold arVals at e
      cases q : arVals ρ ars with
      | none => rw [q] at e; cases e
      | some p =>
        obtain ⟨ts2, ρ2⟩ := p
        rw [q] at e
        cases e
        obtain ⟨n1, n2, n3⟩ := List.nodup_append.mp nd
        have c1 : ∀ l : List Addr, cutl (l ++ (f ++ g ++ M)) H = cutl (l ++ (g ++ (f ++ M))) H := fun l => cutl_congr fun x => by simp only [List.mem_append]; grind
        obtain ⟨own', g', S', r', nd', mm⟩ := take_all (M := f ++ M) (fp := g) (S.perm fun x => by simp only [List.mem_append]; grind) (by rw [← c1]; exact rs) n2 (fun x hx z => by
          rcases List.mem_append.mp z with y | y
          · exact n3 x y x hx rfl
          · exact nM x (List.mem_append_right _ hx) y) a q
        have c2 : ∀ l : List Addr, cutl (l ++ (f ++ g' ++ M)) H = cutl (l ++ (g' ++ (f ++ M))) H := fun l => cutl_congr fun x => by simp only [List.mem_append]; grind
        have c3 : cutl (own ++ (f ++ g ++ M)) H = cutl (own' ++ (f ++ g' ++ M)) H := cutl_congr fun x => by
          have := mm x
          simp only [List.mem_append]
          grind
        refine ⟨own', f ++ g', S'.perm fun x => by simp only [List.mem_append]; grind, Rps.cons (by rw [← c3]; exact r) (by rw [c2]; exact r'), ?_, fun x => ?_⟩
        · rw [List.nodup_append]
          refine ⟨n1, nd', fun x hx y hy z => ?_⟩
          subst z
          rcases (mm x).mpr (.inr hy) with z | z
          · exact S.notM z (by simp [hx])
          · exact n3 x hx x z rfl
        · have := mm x
          simp only [List.mem_append]
          grind
  | .r i :: ars, vs0, ws, ts, ts', fp, M, own, F, ρ, ρ', S, r0, nd, nM, a0, e => by
    cases a0 with
    | r hx a =>
      rename_i vs x
      unfold arVals at e
      split at e
      · rename_i us hu
        cases q : arVals (ρ.set i none) ars with
        | none => rw [q] at e; cases e
        | some p =>
          obtain ⟨ts2, ρ2⟩ := p
          rw [q] at e
          cases e
          obtain ⟨v, f, own1, hv, S1, r1, nf, m1⟩ := S.take hu
          rw [hx] at hv
          cases hv
          have c0 : cutl (own ++ (fp ++ M)) H = cutl (own1 ++ (fp ++ (f ++ M))) H := cutl_congr fun x => by
            have := m1 x
            simp only [List.mem_append]
            grind
          have fo : ∀ x ∈ f, x ∈ own := fun x hx => (m1 x).mpr (.inr hx)
          obtain ⟨own', g', S', r', nd', mm⟩ := take_all (M := f ++ M) (fp := fp) (S1.perm fun x => by simp only [List.mem_append]; grind) (by rw [← c0]; exact r0) nd (fun x hx z => by
            rcases List.mem_append.mp z with y | y
            · exact S.notM (fo x y) (List.mem_append_left _ hx)
            · exact nM x hx y) a q
          have c2 : ∀ l : List Addr, cutl (l ++ (f ++ g' ++ M)) H = cutl (l ++ (g' ++ (f ++ M))) H := fun l => cutl_congr fun x => by simp only [List.mem_append]; grind
          have c3 : cutl (own1 ++ (f ++ (fp ++ M))) H = cutl (own' ++ (f ++ g' ++ M)) H := cutl_congr fun x => by
            have := mm x
            simp only [List.mem_append]
            grind
          refine ⟨own', f ++ g', S'.perm fun x => by simp only [List.mem_append]; grind, Rps.cons (by rw [← c3]; exact r1) (by rw [c2]; exact r'), ?_, fun x => ?_⟩
          · rw [List.nodup_append]
            refine ⟨nf, nd', fun x hx y hy z => ?_⟩
            subst z
            rcases (mm x).mpr (.inr hy) with z | z
            · exact S1.notM z (by simp [hx])
            · exact S.notM (fo x hx) (List.mem_append_left _ z)
          · have := mm x
            have := m1 x
            simp only [List.mem_append]
            grind
      · cases e
/-- what others own is free from now on -/
theorem Sl.forget {f : List Addr} (S : Sl K (f ++ M) F own H σ ρ) : Sl K M (cutl own H) own H σ ρ := by
  have s := S.self
  refine ⟨s.rel.mono (cutl_sub fun a ha => ?_) fun _ _ _ q => q, s.nod, s.frame, s.ownF, fun a ha => s.inF a (List.mem_append_right _ ha)⟩
  rcases List.mem_append.mp ha with z | z <;> simp [z]
theorem put_all : ∀ {ars : List Ar} {vs ws : List V} {ts us : List T} {fp own : List Addr} {F : Hp} {ρ ρ' : Rho}, Sl K (fp ++ M) F own H σ ρ → Rps K (cutl (own ++ (fp ++ M)) H) H vs us fp → fp.Nodup → (∀ a ∈ fp, a ∉ M) → Ars σ ars vs ws ts → arBack ρ ars us = some ρ' →
    ∃ own', Sl K M (cutl own' H) own' H σ ρ' ∧ (∀ a ∈ own', a ∈ own ∨ a ∈ fp) ∧ Sub (cutl (own ++ (fp ++ M)) H) (cutl (own' ++ M) H)
  | [], vs, ws, ts, us, fp, own, F, ρ, ρ', S, r, nd, nM, a, e => by
    cases a
    cases r
    cases e
    exact ⟨own, S.self, fun _ h => .inl h, Sub.rf _⟩
  | .v t :: ars, vs0, ws0, ts0, us0, fp, own, F, ρ, ρ', S, r0, nd, nM, a0, e => by
    cases a0 with
    | v a =>
      rename_i vs ws ts x
      obtain ⟨u, us, f, g, rfl, rfl, r, rs⟩ : ∃ u us f g, us0 = u :: us ∧ fp = f ++ g ∧ Rp K (cutl (own ++ (fp ++ M)) H) H x u f ∧ Rps K (cutl (own ++ (fp ++ M)) H) H vs us g := by
        cases r0 with
        | cons r rs => exact ⟨_, _, _, _, rfl, rfl, r, rs⟩
      have e : arBack ρ ars us = some ρ' := e
      obtain ⟨n1, n2, n3⟩ := List.nodup_append.mp nd
      have hC : Sub (cutl (own ++ (f ++ g ++ M)) H) (cutl (own ++ (g ++ M)) H) := cutl_sub fun x hx => by
        simp only [List.mem_append] at hx ⊢
        grind
      have S1 : Sl K (g ++ M) (cutl own H) own H σ ρ := Sl.forget (f := f) (S.perm fun x => by simp only [List.mem_append]; grind)
      obtain ⟨own', S', h1, h2⟩ := put_all S1 (rs.mono hC fun _ _ _ q => q) n2 (fun x hx => nM x (List.mem_append_right _ hx)) a e
      exact ⟨own', S', fun x hx => (h1 x hx).imp id fun z => List.mem_append_right _ z, hC.tr h2⟩
  | .r i :: ars, vs0, ws, ts, us0, fp, own, F, ρ, ρ', S, r0, nd, nM, a0, e => by
    cases a0 with
    | r hx a =>
      rename_i vs x
      obtain ⟨u, us, f, g, rfl, rfl, r, rs⟩ : ∃ u us f g, us0 = u :: us ∧ fp = f ++ g ∧ Rp K (cutl (own ++ (fp ++ M)) H) H x u f ∧ Rps K (cutl (own ++ (fp ++ M)) H) H vs us g := by
        cases r0 with
        | cons r rs => exact ⟨_, _, _, _, rfl, rfl, r, rs⟩
      have e : arBack (ρ.set i (some u)) ars us = some ρ' := e
      obtain ⟨n1, n2, n3⟩ := List.nodup_append.mp nd
      have hi : i < ρ.length := by rw [← S.rel.len]; exact (List.getElem?_eq_some_iff.mp hx).1
      have ee : ∀ l : List Addr, cutl (l ++ (f ++ g ++ M)) H = cutl (l ++ (f ++ (g ++ M))) H := fun l => by rw [List.append_assoc f g M]
      rw [List.append_assoc] at S
      have fM : ∀ a ∈ f, a ∉ g ++ M := fun a ha z => by
        rcases List.mem_append.mp z with y | y
        · exact n3 a ha a y rfl
        · exact nM a (List.mem_append_left _ ha) y
      have S0 := S.self
      have domM : ∀ a ∈ g ++ M, ∃ o, cutl (own ++ f) H a = some o := fun a ha => by
        obtain ⟨o, q⟩ := S0.inF a (List.mem_append_right _ ha)
        refine ⟨o, ?_⟩
        rw [cutl_out ?_]
        · exact cut_sub _ _ q
        · intro z
          rcases List.mem_append.mp z with z | z
          · exact S.notM z (List.mem_append_right _ ha)
          · exact fM a z ha
      obtain ⟨own1, S1, h1, h2⟩ := S.put2 (M := g ++ M) (F := cutl (own ++ f) H) (by rw [ee own] at r; exact r) n1 hi fM cut_sub (fun a ha => cutl_in (List.mem_append.mpr ha)) domM
      rw [set_same hx] at S1
      obtain ⟨own', S', k1, k2⟩ := put_all S1 (rs.mono (by rw [ee own]; exact h2) fun _ _ _ q => q) n2 (fun x hx => nM x (List.mem_append_right _ hx)) a e
      refine ⟨own', S', fun x hx => ?_, by rw [ee own]; exact h2.tr k2⟩
      rcases k1 x hx with z | z
      · exact (h1 x z).imp id fun y => List.mem_append_left _ y
      · exact .inr (List.mem_append_right _ z)
end

/-- the arguments are evaluated -/
def aJ (K : PySem.W.Frag) (ρ : Rho) (ars : List Ar) (m : Bool) (ρ' : Rho) : TA := fun σ H Q => ∃ (M : List Addr) (F : Hp) (own : List Addr), Sl K M F own H σ ρ ∧
  ∀ (vs : List V) (H' : Hp) (own' : List Addr) (ws : List V) (ts : List T) (fp : List Addr), Gst K M F own H σ m ρ' H' own' ws ts fp → Ars σ ars vs ws ts → Q vs H'
theorem call_ok {X : Cx} {Φ : Fns} {g : Nat} {e : Expr} {ta : TA} {ρ ρ1 ρ2 ρ3 : Rho} {ars : List Ar} {m : Bool} {ts us : List T} {t : T} (h : ∀ σ H Q, aJ X.K ρ ars m ρ1 σ H Q → ta σ H Q) (hv : arVals ρ1 ars = some (ts, ρ2)) (hr : Φ g ts = some (t, us)) (hb : arBack ρ2 ars us = some ρ3)
    (hc : PE X e (fun σ H Q => ta σ H fun vs H1 => Ctr Φ g X.K vs H1 Q)) : PE X e (nJ X.K ρ t true ρ3) := by
  refine PE_imp hc fun σ H Q q => h σ H _ ?_
  obtain ⟨M, F, own, S, q⟩ := q
  refine ⟨M, F, own, S, fun vs H1 own1 ws ts0 fp0 P A => ?_⟩
  have nM0 : ∀ a ∈ fp0, a ∉ M := fun a ha => P.notM S ha
  obtain ⟨own2, fp, S2, r2, nd2, mm⟩ := take_all P.sl P.rp P.nd nM0 A hv
  have c1 : cutl (own2 ++ (fp ++ M)) H1 = cutl (fp ++ (own2 ++ M)) H1 := cutl_congr fun x => by simp only [List.mem_append]; grind
  have c2 : cutl (own1 ++ (fp0 ++ M)) H1 = cutl (own2 ++ (fp ++ M)) H1 := cutl_congr fun x => by
    have := mm x
    simp only [List.mem_append]
    grind
  have nMf : ∀ a ∈ fp, a ∉ M := fun a ha z => by
    rcases (mm a).mpr (.inr ha) with y | y
    · exact P.sl.notM y (List.mem_append_right _ z)
    · exact nM0 a y z
  refine ⟨own2 ++ M, ts, fp, t, us, by rw [← c1]; exact r2, nd2, fun a ha => ⟨fun z => ?_, ?_⟩, hr, fun v H2 f fp2 _ rv rs nd3 nw cl => ?_⟩
  · rcases List.mem_append.mp ha with y | y
    · exact S2.notM y (List.mem_append_left _ z)
    · exact nMf a z y
  · exact S2.dom a (by
      rcases List.mem_append.mp ha with y | y <;> simp [y])
  · obtain ⟨n1, n2, n3⟩ := List.nodup_append.mp nd3
    have notown : ∀ a, a ∈ f ∨ a ∈ fp2 → a ∉ own2 ∧ a ∉ M := fun a ha => by
      rcases nw a ha with z | z
      · exact ⟨fun y => S2.notM y (List.mem_append_left _ z), nMf a z⟩
      · refine ⟨fun y => ?_, fun y => ?_⟩
        · obtain ⟨xs, e⟩ := S2.rel.dom a y
          rw [e] at z; cases z
        · obtain ⟨o, e⟩ := S2.dom a (by simp [y])
          rw [e] at z; cases z
    have keep : ∀ a, a ∉ fp → ∀ o, H1 a = some o → H2 a = some o := fun a ha o e => cl a o (by rw [cutl_out ha]; exact e)
    have cC : Sub (cutl (own2 ++ (fp ++ M)) H1) (cutl (own2 ++ ((f ++ fp2) ++ M)) H2) := fun a o e => by
      obtain ⟨e1, e2⟩ := cutl_some e
      simp only [List.mem_append, not_or] at e2
      rw [cutl_out ?_]
      · exact keep a e2.2.1 o e1
      · intro z
        simp only [List.mem_append] at z
        rcases z with z | (z | z) | z
        · exact e2.1 z
        · rcases nw a (.inl z) with y | y
          · exact e2.2.1 y
          · rw [e1] at y; cases y
        · rcases nw a (.inr z) with y | y
          · exact e2.2.1 y
          · rw [e1] at y; cases y
        · exact e2.2.2 z
    have own2k : ∀ a ∈ own2, ∀ o, H1 a = some o → H2 a = some o := fun a ha => keep a fun z => S2.notM ha (List.mem_append_left _ z)
    -- the slots behind the call, without what was lent
    have S3 : Sl X.K (fp2 ++ (f ++ M)) (cutl own2 H2) own2 H2 σ ρ2 := by
      refine ⟨(S2.rel.mono cC own2k).mono (cutl_sub fun a ha => by simp only [List.mem_append] at ha ⊢; grind) fun _ _ _ q => q, S2.nod, cut_sub, fun a ha => cutl_in ha, fun a ha => ?_⟩
      have : ∃ o, H2 a = some o := by
        rcases List.mem_append.mp ha with z | z
        · obtain ⟨xs, e⟩ := rs.dom a z
          exact ⟨_, e⟩
        · rcases List.mem_append.mp z with z | z
          · obtain ⟨xs, e⟩ := rv.dom a z
            exact ⟨_, e⟩
          · obtain ⟨o, e⟩ := S2.dom a (by simp [z])
            exact ⟨o, keep a (fun y => nMf a y z) o e⟩
      obtain ⟨o, e⟩ := this
      refine ⟨o, ?_⟩
      rw [cutl_out ?_]
      · exact e
      · intro y
        rcases List.mem_append.mp ha with z | z
        · exact (notown a (.inr z)).1 y
        · rcases List.mem_append.mp z with z | z
          · exact (notown a (.inl z)).1 y
          · exact S2.notM y (List.mem_append_right _ z)
    have c3 : cutl ((f ++ fp2) ++ (own2 ++ M)) H2 = cutl (own2 ++ (fp2 ++ (f ++ M))) H2 := cutl_congr fun x => by simp only [List.mem_append]; grind
    obtain ⟨own3, S4, k1, k2⟩ := put_all S3 (by rw [← c3]; exact rs) n2 (fun a ha z => by
      rcases List.mem_append.mp z with y | y
      · exact n3 a y a ha rfl
      · exact (notown a (.inr ha)).2 y) A hb
    have inOwn : ∀ a, a ∈ own2 ∨ a ∈ fp → a ∈ own ∨ H a = none := fun a ha => by
      rcases (mm a).mpr ha with z | z
      · exact P.sub a z
      · exact P.new a z
    have newer : ∀ a, a ∈ f ∨ a ∈ fp2 → a ∈ own ∨ H a = none := fun a ha => by
      rcases nw a ha with z | z
      · exact inOwn a (.inr z)
      · exact P.back S z
    refine q v H2 own3 f ⟨S4, Rps.one (rv.mono (by rw [c3]; exact k2) fun _ _ _ q => q), n1, fun a ha => newer a (.inl ha), fun a ha => ?_, ?_, (fun z => nomatch z), fun a o e => ?_⟩
    · rcases k1 a ha with z | z
      · exact inOwn a (.inl z)
      · exact newer a (.inr z)
    · have c4 : cutl (own2 ++ ((f ++ fp2) ++ M)) H2 = cutl (own2 ++ (fp2 ++ (f ++ M))) H2 := cutl_congr fun x => by simp only [List.mem_append]; grind
      refine P.cl.tr ?_
      rw [c2]
      refine cC.tr ?_
      rw [c4]
      exact k2
    · have z := P.fr a o e
      refine keep a (fun y => ?_) o z
      have key : a ∈ own ∨ H a = none := inOwn a (.inr y)
      rcases key with w | w
      · rw [S.ownF a w] at e; cases e
      · rw [S.newF w] at e; cases e
end Em

set_option Elab.async false
set_option linter.all false
set_option maxRecDepth 100000
set_option maxHeartbeats 4000000
/-! EmN: list comprehensions. -/
namespace Em
open PySem PySem.Spec PyProof.Rows L2

section
variable {K : PySem.W.Frag} {M own : List Addr} {F F' H : Hp} {σ : Sg} {ρ : Rho}
theorem set_out {α : Type} {l : List α} {i : Nat} {a : α} (h : ¬ i < l.length) : l.set i a = l := List.set_eq_of_length_le (Nat.le_of_not_lt h)
theorem wipeR_len : ∀ {vs : List Nat}, (wipeR ρ vs).length = ρ.length
  | [] => rfl
  | v :: vs => by unfold wipeR; rw [List.length_set, wipeR_len]
theorem Sl.wipe : ∀ {vs : List Nat} {own : List Addr} {σ : Sg} {ρ : Rho}, Sl K M F own H σ ρ → ∃ own', Sl K M F own' H (wipe σ vs) (wipeR ρ vs) ∧ ∀ a ∈ own', a ∈ own
  | [], own, σ, ρ, S => ⟨own, S, fun _ h => h⟩
  | v :: vs, own, σ, ρ, S => by
    obtain ⟨own1, S1, h1⟩ := S.wipe (vs := vs)
    unfold L2.wipe wipeR
    by_cases hv : v < (wipeR ρ vs).length
    · obtain ⟨own2, S2, h2⟩ := S1.drop (x := none) hv
      exact ⟨own2, S2, fun a h => h1 a (h2 a h)⟩
    · rw [set_out hv, set_out (by rw [S1.rel.len]; exact hv)]
      exact ⟨own1, S1, h1⟩
/-- a step that only stores -/
theorem Sl.gst {own' : List Addr} {σ' : Sg} {ρ' : Rho} (S : Sl K M F own H σ ρ) (S' : Sl K M F' own' H σ' ρ') (h : ∀ a ∈ own', a ∈ own) : Gst K M F own H σ' false ρ' H own' [] [] [] :=
  ⟨S'.self, .nil, List.nodup_nil, fun _ h => absurd h List.not_mem_nil, fun a ha => .inl (h a ha), cutl_sub fun a ha => by
    rcases List.mem_append.mp ha with z | z
    · exact List.mem_append_left _ (h a z)
    · exact List.mem_append_right _ z, fun _ => Sub.rf _, S.frame⟩
def restS (σ0 : Sg) : List Nat → Sg → Sg
  | [], σ => σ
  | v :: vs, σ => (restS σ0 vs σ).set v ((σ0[v]?).getD none)
theorem restS_len {σ0 σ : Sg} : ∀ {vs : List Nat}, (restS σ0 vs σ).length = σ.length
  | [] => rfl
  | v :: vs => by unfold restS; rw [List.length_set, restS_len]
theorem restS_get {σ0 σ : Sg} {j : Nat} (hl : σ.length = σ0.length) : ∀ {vs : List Nat}, (restS σ0 vs σ)[j]? = if j ∈ vs then σ0[j]? else σ[j]?
  | [] => by simp [restS]
  | v :: vs => by
    unfold restS
    have ih := restS_get (σ0 := σ0) (σ := σ) (j := j) hl (vs := vs)
    by_cases e : v = j
    · subst e
      by_cases hv : v < σ0.length
      · rw [List.getElem?_set_self (by rw [restS_len, hl]; exact hv)]
        simp [hv]
      · rw [List.getElem?_eq_none (by rw [List.length_set, restS_len, hl]; omega)]
        simp; omega
    · rw [List.getElem?_set_ne e, ih]
      have : j ≠ v := fun z => e z.symm
      simp [this]
theorem restS_wipe {σ : Sg} {vs : List Nat} : restS σ vs (wipe σ vs) = σ := by
  apply List.ext_getElem?
  intro j
  rw [restS_get (wipe_length σ vs)]
  split
  · rfl
  · rename_i h
    exact wipe_out h
theorem Sl.unwipe {M2 : List Addr} {F2 H2 : Hp} {own2 : List Addr} {σ : Sg} {ρ : Rho} (S : Sl K M F own H σ ρ) (cl : Sub (cutl (own ++ M) H) (cutl (own2 ++ M2) H2)) : ∀ {vs : List Nat} {σ2 : Sg} {ρ2 : Rho}, σ2.length = σ.length → plain vs ρ = true → Sl K M2 F2 own2 H2 σ2 ρ2 →
    ∃ own3, Sl K M2 F2 own3 H2 (restS σ vs σ2) (restore vs ρ ρ2) ∧ ∀ a ∈ own3, a ∈ own2
  | [], σ2, ρ2, _, _, S2 => ⟨own2, S2, fun _ h => h⟩
  | v :: vs, σ2, ρ2, hl, hp, S2 => by
    unfold plain at hp
    rw [List.all_cons] at hp
    obtain ⟨h1, h2⟩ := Bool.and_eq_true_iff.mp hp
    obtain ⟨own3, S3, k3⟩ := S.unwipe cl hl h2 S2
    unfold restS restore
    split at h1
    · cases h1
    · rename_i o n q
      have hv : v < ρ.length := (List.getElem?_eq_some_iff.mp q).1
      have hv3 : v < (restore vs ρ ρ2).length := by rw [← S3.rel.len, restS_len, hl, S.rel.len]; exact hv
      obtain ⟨pre, g, post, ee, d, _, _⟩ := S.rel.focus hv
      rw [q]
      rcases d with ⟨z, _⟩ | ⟨x, t, z, hx, r⟩
      · rw [q] at z
        cases z
        obtain ⟨own4, S4, k4⟩ := S3.drop (x := (σ[v]?).getD none) hv3
        exact ⟨own4, S4, fun a h => k3 a (k4 a h)⟩
      · rw [q] at z
        cases z
        rw [hx]
        cases t with
        | ls ts => exact absurd rfl (n ts)
        | im d =>
          have hi : Is K (cutl (own3 ++ M2) H2) x d := by
            cases r with
            | im h => exact own_sub (h.mono cl) k3
          obtain ⟨own4, S4, k4⟩ := S3.putIm hv3 hi
          exact ⟨own4, S4, fun a h => k3 a (k4 a h)⟩
    · cases h1
end
section
variable {K : PySem.W.Frag} {M own0 own : List Addr} {F H0 H : Hp} {σ σ0 : Sg} {ρ ρ0 : Rho} {m : Bool} {D0 : Addr} {y : V} {ts : List T} {t : T} {fp : List Addr} {acc : List V}
/-- what lies at the new list -/
theorem Gst.atD {vs : List V} {us : List T} (P : Gst K M F own0 H0 σ m ρ H own (.ref D0 :: vs) (.ls ts :: us) fp) : ∃ acc f g, H D0 = some (.lst acc) ∧ fp = D0 :: (f ++ g) ∧ Rps K (cutl (own ++ (fp ++ M)) H) H acc ts f ∧ Rps K (cutl (own ++ (fp ++ M)) H) H vs us g := by
  have r := P.rp
  cases r with
  | cons r1 r2 =>
    cases r1 with
    | ls h hs => exact ⟨_, _, _, h, rfl, hs, r2⟩
theorem Gst.push (S : Sl K M F own0 H0 σ0 ρ0) (P : Gst K M F own0 H0 σ m ρ H own [.ref D0, y] [.ls ts, t] fp) (hD : H0 D0 = none) (ha : H D0 = some (.lst acc)) : Gst K M F own0 H0 σ m ρ (upd H D0 (.lst (acc ++ [y]))) own [.ref D0] [.ls (ts ++ [t])] fp := by
  obtain ⟨acc', f, g, h1, h2, h3, h4⟩ := P.atD
  rw [ha] at h1
  cases h1
  have nd := P.nd
  rw [h2] at nd
  obtain ⟨n1, n2⟩ := List.nodup_cons.mp nd
  have inf : D0 ∈ fp := by rw [h2]; exact List.mem_cons_self
  have hout : D0 ∉ own := P.notown (.inl inf)
  have hu : ∀ a, a ≠ D0 → ∀ o, H a = some o → upd H D0 (.lst (acc ++ [y])) a = some o := fun a n o e => by rw [upd_ne n]; exact e
  have cC : Sub (cutl (own ++ (fp ++ M)) H) (cutl (own ++ (fp ++ M)) (upd H D0 (.lst (acc ++ [y])))) := fun a o e => by
    obtain ⟨e1, e2⟩ := cutl_some e
    rw [cutl_out e2]
    refine hu a (fun z => e2 ?_) o e1
    rw [z]
    simp [inf]
  have r1 := Rps.app h3 h4
  have r2 : Rps K (cutl (own ++ (fp ++ M)) (upd H D0 (.lst (acc ++ [y])))) (upd H D0 (.lst (acc ++ [y]))) (acc ++ [y]) (ts ++ [t]) (f ++ g) := r1.mono cC fun a ha o e => hu a (fun z => n1 (by rw [← z]; exact ha)) o e
  have r3 := Rps.one (Rp.ls (upd_same (H := H) (a := D0) (o := .lst (acc ++ [y]))) r2)
  rw [← h2] at r3
  refine ⟨?_, r3, P.nd, P.new, P.sub, P.cl.tr cC, fun z a o e => ?_, fun a o e => ?_⟩
  · have s := P.sl
    exact ⟨s.rel.mono cC fun a ha o e => hu a (fun z => hout (by rw [← z]; exact ha)) o e, s.nod, cut_sub, fun a ha => cutl_in ha, fun a ha => by
      obtain ⟨o, e⟩ := s.inF a ha
      obtain ⟨e1, e2⟩ := cutl_some e
      by_cases z : a = D0
      · exact ⟨_, by rw [cutl_out e2, z]; exact upd_same⟩
      · exact ⟨o, by rw [cutl_out e2]; exact hu a z o e1⟩⟩
  · exact hu a (ne_of_none e hD) o (P.ext z a o e)
  · exact hu a (ne_of_none e (S.newF hD)) o (P.fr a o e)
end

theorem Gst.selfF {K : PySem.W.Frag} {M own own1 : List Addr} {F H H1 : Hp} {σ σ0 : Sg} {ρ0 ρ1 : Rho} {m : Bool} {vs : List V} {ts : List T} {fp : List Addr} (S : Sl K M F own H σ0 ρ0) (A : Gst K M F own H σ m ρ1 H1 own1 vs ts fp) : Gst K M (cutl own H) own H σ m ρ1 H1 own1 vs ts fp :=
  ⟨A.sl, A.rp, A.nd, A.new, A.sub, A.cl, A.ext, fun a o e => by
    obtain ⟨e1, e2⟩ := cutl_some e
    by_cases m : a ∈ M
    · obtain ⟨o', e'⟩ := S.inF a m
      have := S.frame a o' e'
      rw [e1] at this
      cases this
      exact A.fr a o e'
    · exact cut_sub _ _ (A.cl a o (by rw [cutl_out (by simp [e2, m])]; exact e1))⟩
theorem compL_cons {turn : D → Rho → Option (Option T × Rho)} {d : D} {ds : List D} {ρ ρ5 : Rho} {rest : List T} (h : compL turn (d :: ds) ρ = some (rest, ρ5)) : ∃ o ρ1 ts, turn d ρ = some (o, ρ1) ∧ compL turn ds ρ1 = some (ts, ρ5) ∧ rest = o.toList ++ ts := by
  unfold compL at h
  cases ht : turn d ρ with
  | none => rw [ht] at h; cases h
  | some p =>
    obtain ⟨o, ρ1⟩ := p
    rw [ht] at h
    cases hr : compL turn ds ρ1 with
    | none => simp only [hr] at h; cases h
    | some p2 =>
      obtain ⟨ts, ρ3⟩ := p2
      simp only [hr] at h
      cases o with
      | none =>
        cases h
        exact ⟨none, ρ1, ts, rfl, hr, rfl⟩
      | some t =>
        cases h
        exact ⟨some t, ρ1, ts, rfl, hr, rfl⟩
/-- one turn -/
def StepOk (K : PySem.W.Frag) (vs : List Nat) (m : Bool) (g : TG) (tt : TT) (te : TE) (turn : D → Rho → Option (Option T × Rho)) : Prop := ∀ (d : D) (ρ : Rho) (o : Option T) (ρ' : Rho), turn d ρ = some (o, ρ') →
  ∀ (M : List Addr) (F : Hp) (own : List Addr) (σ : Sg) (H : Hp) (x : V) (Q1 : V → Hp → Prop) (Q2 : Hp → Prop), Sl K M F own H σ ρ → Is K (cutl (own ++ M) H) x d → wipe σ vs = σ →
    (∀ t y H4 own' fp, o = some t → Gst K M F own H σ m ρ' H4 own' [y] [t] fp → Q1 y H4) → (∀ H3 own', o = none → Gst K M F own H σ m ρ' H3 own' [] [] [] → Q2 H3) →
    g x σ H fun σ2 H2 => wipe σ2 vs = σ ∧ tt σ2 H2 fun b H3 => if b = true then te σ2 H3 Q1 else Q2 H3
theorem wipe_wipe {σ : Sg} {vs : List Nat} : wipe (wipe σ vs) vs = wipe σ vs := by
  apply List.ext_getElem?
  intro j
  by_cases h : j ∈ vs
  · have key : ∀ {vs : List Nat} {σ : Sg}, j ∈ vs → (wipe σ vs)[j]? = if j < σ.length then some none else none := by
      intro vs
      induction vs with
      | nil => intro σ h; simp at h
      | cons v vs ih =>
        intro σ h
        unfold wipe
        by_cases e : v = j
        · subst e
          by_cases hv : v < σ.length
          · rw [List.getElem?_set_self (by rw [wipe_length]; exact hv), if_pos hv]
          · rw [List.getElem?_eq_none (by rw [List.length_set, wipe_length]; omega), if_neg hv]
        · rw [List.getElem?_set_ne e]
          exact ih ((List.mem_cons.mp h).resolve_left fun z => e z.symm)
    rw [key h, key h, wipe_length]
  · rw [wipe_out h]
theorem lc_reading {K : PySem.W.Frag} {vs : List Nat} {m1 m2 : Bool} {g : TG} {tt : TT} {te : TE} {turn : D → Rho → Option (Option T × Rho)} {ρ ρ1 ρ5 : Rho} {ds : List D} {ts : List T} (hs : StepOk K vs m2 g tt te turn) (hc : compL turn ds (wipeR ρ1 vs) = some (ts, ρ5)) (hp : plain vs ρ1 = true) (hl : ds.length ≤ LIM)
    (σ : Sg) (H : Hp) (Q : VK) (q : nJ K ρ (.ls ts) (m1 || m2) (restore vs ρ1 ρ5) σ H Q) : tLc (iJ K ρ ds m1 ρ1) g tt te vs σ H Q := by
  obtain ⟨M, F, own, S, q⟩ := q
  refine ⟨M, F, own, S, fun J H1 own1 P wd D hD => ?_⟩
  have S1 := P.sl
  obtain ⟨own2, S2, s2⟩ := S1.wipe (vs := vs)
  obtain ⟨G, Y, w, wG, wY⟩ := wd
  have cW : Sub (cutl (own1 ++ M) H1) (cutl (own2 ++ M) H1) := cutl_sub fun a ha => by
    rcases List.mem_append.mp ha with z | z
    · exact List.mem_append_left _ (s2 a z)
    · exact List.mem_append_right _ z
  refine lc_it w (fun i H => ∃ ρi own' tsa fp rest, Gst K M F own2 H1 (wipe σ vs) m2 ρi H own' [.ref D] [.ls tsa] fp ∧ compL turn (ds.drop i) ρi = some (rest, ρ5) ∧ tsa ++ rest = ts ∧ tsa.length ≤ i) ?_ ?_ ?_ ?_
  · have g0 := S2.gst S2 (fun _ h => h)
    obtain ⟨_, e1, e2, e3⟩ := new_cut (o := .lst []) S2.dom hD
    refine ⟨wipeR ρ1 vs, own2, [], [D], ts, ⟨?_, Rps.one (.ls upd_same .nil), List.nodup_cons.mpr ⟨List.not_mem_nil, List.nodup_nil⟩, fun a ha => .inr (by rw [List.mem_singleton.mp ha]; exact hD), fun a ha => .inl ha, ?_, fun _ => Sub.new hD, S2.frame.tr (Sub.new hD)⟩, hc, rfl, Nat.zero_le _⟩
    · have nD : ∀ a, H1 a = none → a ∉ own2 ++ M := fun a z m => by
        obtain ⟨o, e⟩ := S2.dom a m
        rw [z] at e; cases e
      refine ⟨S2.rel.mono ?_ fun a _ o e => e1 a o e, S2.nod, cut_sub, fun a ha => cutl_in ha, fun a ha => ?_⟩
      · intro a o e
        obtain ⟨e4, e5⟩ := cutl_some e
        rw [cutl_out ?_]
        · exact e1 a o e4
        · intro z
          simp only [List.mem_append, List.mem_singleton] at z e5
          rcases z with z | z | z
          · exact e5 (.inl z)
          · rw [z, hD] at e4; cases e4
          · exact e5 (.inr z)
      · rcases List.mem_append.mp ha with z | z
        · have z := List.mem_singleton.mp z
          refine ⟨.lst [], ?_⟩
          rw [z, cutl_out fun m => nD D hD (List.mem_append_left _ m)]
          exact upd_same
        · obtain ⟨o, e⟩ := S2.inF a z
          exact ⟨o, by rw [cutl_out fun m => S2.notM m z]; exact e1 a o (S2.frame a o e)⟩
    · intro a o e
      obtain ⟨e4, e5⟩ := cutl_some e
      rw [cutl_out ?_]
      · exact e1 a o e4
      · intro z
        simp only [List.mem_append, List.mem_singleton] at z e5
        rcases z with z | z | z
        · exact e5 (.inl z)
        · rw [z, hD] at e4; cases e4
        · exact e5 (.inr z)
  · rintro i H _ ⟨ρi, own', tsa, fp, rest, A, _, _, _⟩
    exact wG H ((cW.tr A.cl).tr cut_sub)
  · rintro i x H H' hi ⟨ρi, own', tsa, fp, rest, A, c1, c2, c3⟩ y
    have cA : Sub (cutl (own1 ++ M) H1) (cutl (own' ++ (fp ++ M)) H) := cW.tr A.cl
    obtain ⟨ext, val⟩ := wY i H x H' hi (cA.tr cut_sub) y
    obtain ⟨d, e1, e2⟩ := val (own' ++ (fp ++ M)) A.sl.dom cA
    have B := A.grow ext
    have hdrop : ds.drop i = d :: ds.drop (i + 1) := by
      obtain ⟨hlt, e⟩ := List.getElem?_eq_some_iff.mp e1
      rw [List.drop_eq_getElem_cons hlt, e]
    rw [hdrop] at c1
    obtain ⟨o, ρ2, ts2, ht, hr, rfl⟩ := compL_cons c1
    have key := hs d ρi o ρ2 ht (fp ++ M) (cutl own' H') own' (wipe σ vs) H' x
      (fun y H4 => ∃ acc, H4 D = some (.lst acc) ∧ acc.length < sizeLine ∧ ∃ ρi own' tsa fp rest, Gst K M F own2 H1 (wipe σ vs) m2 ρi (upd H4 D (.lst (acc ++ [y]))) own' [.ref D] [.ls tsa] fp ∧ compL turn (ds.drop (i + 1)) ρi = some (rest, ρ5) ∧ tsa ++ rest = ts ∧ tsa.length ≤ i + 1)
      (fun H3 => ∃ ρi own' tsa fp rest, Gst K M F own2 H1 (wipe σ vs) m2 ρi H3 own' [.ref D] [.ls tsa] fp ∧ compL turn (ds.drop (i + 1)) ρi = some (rest, ρ5) ∧ tsa ++ rest = ts ∧ tsa.length ≤ i + 1)
      B.sl e2 wipe_wipe ?_ ?_
    · exact key
    · intro t y H4 own4 fp4 ho C
      subst ho
      have E := (Gst.tr S2 B C).weak (m1 := m2) (fun z => by rw [z]; rfl)
      obtain ⟨acc, f, g, a1, a2, a3, _⟩ := E.atD
      refine ⟨acc, a1, ?_, ρ2, own4, tsa ++ [t], _, ts2, E.push S2 hD a1, hr, by rw [← c2]; simp, by rw [List.length_append]; exact Nat.succ_le_succ c3⟩
      rw [a3.len]
      exact Nat.lt_of_lt_of_le (Nat.lt_of_le_of_lt c3 hi) (Nat.le_trans hl lim_le)
    · intro H3 own3 ho C
      subst ho
      have E := (Gst.tr S2 B C).weak (m1 := m2) (fun z => by rw [z]; rfl)
      rw [List.append_nil, List.append_nil, List.append_nil] at E
      exact ⟨ρ2, own3, tsa, fp, ts2, E, hr, by rw [← c2]; rfl, Nat.le_succ_of_le c3⟩
  · rintro H ⟨ρi, own', tsa, fp, rest, A, c1, c2, c3⟩
    rw [List.drop_length] at c1
    cases c1
    rw [List.append_nil] at c2
    subst c2
    obtain ⟨own3, S3, s3⟩ := S1.unwipe (cW.tr A.cl) (wipe_length σ vs) hp A.sl
    rw [restS_wipe] at S3
    have g1 : Gst K M (cutl own1 H1) own1 H1 (wipe σ vs) false (wipeR ρ1 vs) H1 own2 [] [] [] := S1.self.gst S2 s2
    have g3 := Gst.tr S1.self g1 (A.selfF S2)
    have g4 := Gst.tr S1.self g3 (A.sl.gst S3 s3)
    have g5 := (Gst.tr S P.gst g4).weak (m1 := m1 || m2) (fun z => by simp at z ⊢; exact z)
    simp only [List.nil_append, List.append_nil] at g5
    exact q _ _ _ _ g5
end Em

set_option Elab.async false
set_option linter.all false
set_option maxRecDepth 100000
set_option maxHeartbeats 4000000
/-! EmO: rules for single forms of expressions. -/
namespace Em
open PySem PySem.Spec PyProof.Rows L2

section
variable {K : PySem.W.Frag} {M own : List Addr} {F H : Hp} {σ : Sg} {ρ : Rho}
theorem Sl.get {i : Nat} {t : T} (S : Sl K M F own H σ ρ) (e : ρ[i]? = some (some t)) : ∃ v, σ[i]? = some (some v) ∧ Val K (cutl (own ++ M) H) H v t := by
  have hi : i < ρ.length := (List.getElem?_eq_some_iff.mp e).1
  obtain ⟨pre, g, post, ee, d, _, _⟩ := S.rel.focus hi
  rcases d with ⟨z, _⟩ | ⟨v, u, z, hv, r⟩
  · rw [e] at z; cases z
  · rw [e] at z
    cases z
    exact ⟨v, hv, _, r⟩
end
section
variable {X : Cx} {N : List Str} {e a b c : Expr} {ρ ρ' ρ1 ρ2 ρ3 : Rho} {t u : T} {d : D} {m m' m1 m2 m3 : Bool} {i : Nat} {x : Str} {p pos ap : Pos} {es : List Expr}
theorem PE_m (h : PE X e (tJ X.K ρ t m ρ')) (w : m' = false → m = false) : PE X e (tJ X.K ρ t m' ρ') := PE_imp h fun σ H Q q => by
  obtain ⟨M, F, own, S, q⟩ := q
  exact ⟨M, F, own, S, fun v H' own' P V1 => q v H' own' (P.weak w) V1⟩
theorem PT_m {b : Bool} (h : PT X e (tJb X.K ρ b m ρ')) (w : m' = false → m = false) : PT X e (tJb X.K ρ b m' ρ') := PT_imp h fun σ H Q q => by
  obtain ⟨M, F, own, S, q⟩ := q
  exact ⟨M, F, own, S, fun H' own' P => q H' own' (P.weak w)⟩
theorem PW_m {b : Bool} (h : PW X e (tJb X.K ρ b m ρ')) (w : m' = false → m = false) : PW X e (tJb X.K ρ b m' ρ') := PW_imp h fun σ H Q q => by
  obtain ⟨M, F, own, S, q⟩ := q
  exact ⟨M, F, own, S, fun H' own' P => q H' own' (P.weak w)⟩
theorem PN_m (h : PE X e (nJ X.K ρ t m ρ')) (w : m' = false → m = false) : PE X e (nJ X.K ρ t m' ρ') := PE_imp h fun σ H Q q => by
  obtain ⟨M, F, own, S, q⟩ := q
  exact ⟨M, F, own, S, fun v H' own' fp P => q v H' own' fp (P.weak w)⟩
theorem r_var (hi : X.N[i]? = some x) (hv : Vis X.env.scope x) (h1 : (x == ("__debug__" : Str)) = false) (h2 : (x == ("__classdict__" : Str)) = false) (e : ρ[i]? = some (some t)) : PE X (.Name x p) (tJ X.K ρ t false ρ) := PE_imp (pe_var hi hv h1 h2) fun σ H Q q => by
  obtain ⟨M, F, own, S, q⟩ := q
  obtain ⟨v, hv, V1⟩ := S.get e
  exact ⟨v, hv, q v H own (Pst.rf S) V1⟩
theorem r_frz (hi : X.N[i]? = some x) (hv : Vis X.env.scope x) (h1 : (x == ("__debug__" : Str)) = false) (h2 : (x == ("__classdict__" : Str)) = false) (e : ρ[i]? = some (some t)) : PE X (.Name x p) (tJ X.K ρ (.im t.view) false (ρ.set i (some (.im t.view)))) := PE_imp (pe_var hi hv h1 h2) fun σ H Q q => by
  obtain ⟨M, F, own, S, q⟩ := q
  obtain ⟨own', v, hv, S', hs, hI⟩ := S.freeze e
  refine ⟨v, hv, q v H own' ⟨S', fun a h => .inl (hs a h), cutl_sub fun a ha => ?_, fun _ => Sub.rf _⟩ (.im hI)⟩
  rcases List.mem_append.mp ha with z | z
  · exact List.mem_append_left _ (hs a z)
  · exact List.mem_append_right _ z
theorem r_const {v : V} (h : PE X e (tC v)) (hd : ∀ H, Is X.K H v d) : PE X e (tJ X.K ρ (.im d) false ρ) := PE_imp h fun σ H Q q => by
  obtain ⟨M, F, own, S, q⟩ := q
  exact q v H own (Pst.rf S) (.im (hd _))
theorem r_ite {k : Bool} (hc : PT X c (tJb X.K ρ k m1 ρ1)) (ha : k = true → PE X a (tJ X.K ρ1 t m2 ρ2)) (hb : k = false → PE X b (tJ X.K ρ1 t m3 ρ2)) : PE X (.IfExp c a b pos) (tJ X.K ρ t (m1 || (m2 || m3)) ρ2) := by
  cases k with
  | true =>
    refine PE_imp (pe_ifExp hc (ha rfl) (tb := fun _ _ _ => False) ⟨fun _ _ _ _ _ _ z => z.elim⟩) fun σ H Q q => ?_
    obtain ⟨M, F, own, S, q⟩ := q
    refine ⟨M, F, own, S, fun H1 own1 P1 => ?_⟩
    exact ⟨M, F, own1, P1.sl, fun v H2 own2 P2 V2 => q v H2 own2 ((P1.tr P2).weak fun z => by simp at z ⊢; exact ⟨z.1, z.2.1⟩) V2⟩
  | false =>
    refine PE_imp (pe_ifExp hc (ta := fun _ _ _ => False) ⟨fun _ _ _ _ _ _ z => z.elim⟩ (hb rfl)) fun σ H Q q => ?_
    obtain ⟨M, F, own, S, q⟩ := q
    refine ⟨M, F, own, S, fun H1 own1 P1 => ?_⟩
    exact ⟨M, F, own1, P1.sl, fun v H2 own2 P2 V2 => q v H2 own2 ((P1.tr P2).weak fun z => by simp at z ⊢; exact ⟨z.1, z.2.2⟩) V2⟩
theorem r_not {k : Bool} (h : PE X a (tJ X.K ρ (.im (.bl k)) m ρ')) : PE X (.UnaryOp .Not a pos) (tJ X.K ρ (.im (.bl (!k))) m ρ') := PE_imp (pe_not h) fun σ H Q q => by
  obtain ⟨M, F, own, S, q⟩ := q
  exact ⟨M, F, own, S, fun v H' own' P V1 => ⟨k, V1.is.bl_v, q _ H' own' P (.im (.bl _))⟩⟩
theorem t_not {k : Bool} (h : PT X a (tJb X.K ρ k m ρ')) : PT X (.UnaryOp .Not a pos) (tJb X.K ρ (!k) m ρ') := PT_imp (pt_not h) fun σ H Q q => by
  obtain ⟨M, F, own, S, q⟩ := q
  exact ⟨M, F, own, S, fun H' own' P => q H' own' P⟩
/-- what is never come to -/
theorem pe_no : PE X e (fun _ _ _ => False) := ⟨fun _ _ _ _ _ _ z => z.elim⟩
theorem pt_no : PT X e (fun _ _ _ => False) := ⟨fun _ _ _ _ _ _ z => z.elim⟩
theorem pw_no : PW X e (fun _ _ _ => False) := ⟨fun _ _ _ _ _ _ _ z => z.elim⟩
theorem r_and1 {k : Bool} (ha : PE X a (tJ X.K ρ (.im (.bl true)) m1 ρ1)) (hb : PE X (.BoolOp .And (b :: es) pos) (tJ X.K ρ1 (.im (.bl k)) m2 ρ2)) : PE X (.BoolOp .And (a :: b :: es) pos) (tJ X.K ρ (.im (.bl k)) (m1 || m2) ρ2) := PE_imp (pe_and ha hb) fun σ H Q q => by
  obtain ⟨M, F, own, S, q⟩ := q
  refine ⟨M, F, own, S, fun v H1 own1 P1 V1 => ⟨true, V1.is.bl_v, ?_⟩⟩
  exact ⟨M, F, own1, P1.sl, fun v H2 own2 P2 V2 => q v H2 own2 (P1.tr P2) V2⟩
theorem r_and0 (ha : PE X a (tJ X.K ρ (.im (.bl false)) m1 ρ1)) : PE X (.BoolOp .And (a :: b :: es) pos) (tJ X.K ρ (.im (.bl false)) m1 ρ1) := PE_imp (pe_and ha pe_no) fun σ H Q q => by
  obtain ⟨M, F, own, S, q⟩ := q
  refine ⟨M, F, own, S, fun v H1 own1 P1 V1 => ⟨false, V1.is.bl_v, ?_⟩⟩
  exact q _ H1 own1 P1 (.im (.bl _))
theorem r_or1 {k : Bool} (ha : PE X a (tJ X.K ρ (.im (.bl false)) m1 ρ1)) (hb : PE X (.BoolOp .Or (b :: es) pos) (tJ X.K ρ1 (.im (.bl k)) m2 ρ2)) : PE X (.BoolOp .Or (a :: b :: es) pos) (tJ X.K ρ (.im (.bl k)) (m1 || m2) ρ2) := PE_imp (pe_or ha hb) fun σ H Q q => by
  obtain ⟨M, F, own, S, q⟩ := q
  refine ⟨M, F, own, S, fun v H1 own1 P1 V1 => ⟨false, V1.is.bl_v, ?_⟩⟩
  exact ⟨M, F, own1, P1.sl, fun v H2 own2 P2 V2 => q v H2 own2 (P1.tr P2) V2⟩
theorem r_or0 (ha : PE X a (tJ X.K ρ (.im (.bl true)) m1 ρ1)) : PE X (.BoolOp .Or (a :: b :: es) pos) (tJ X.K ρ (.im (.bl true)) m1 ρ1) := PE_imp (pe_or ha pe_no) fun σ H Q q => by
  obtain ⟨M, F, own, S, q⟩ := q
  refine ⟨M, F, own, S, fun v H1 own1 P1 V1 => ⟨true, V1.is.bl_v, ?_⟩⟩
  exact q _ H1 own1 P1 (.im (.bl _))
theorem w_and1 {k : Bool} (ha : PT X a (tJb X.K ρ true m1 ρ1)) (hb : PW X (.BoolOp .And (b :: es) pos) (tJb X.K ρ1 k m2 ρ2)) : PW X (.BoolOp .And (a :: b :: es) pos) (tJb X.K ρ k (m1 || m2) ρ2) := PW_imp (pw_and ha hb) fun σ H Q q => by
  obtain ⟨M, F, own, S, q⟩ := q
  refine ⟨M, F, own, S, fun H1 own1 P1 => ?_⟩
  exact ⟨M, F, own1, P1.sl, fun H2 own2 P2 => q H2 own2 (P1.tr P2)⟩
theorem w_and0 (ha : PT X a (tJb X.K ρ false m1 ρ1)) : PW X (.BoolOp .And (a :: b :: es) pos) (tJb X.K ρ false m1 ρ1) := PW_imp (pw_and ha pw_no) fun σ H Q q => by
  obtain ⟨M, F, own, S, q⟩ := q
  refine ⟨M, F, own, S, fun H1 own1 P1 => ?_⟩
  exact q H1 own1 P1
theorem w_or1 {k : Bool} (ha : PT X a (tJb X.K ρ false m1 ρ1)) (hb : PW X (.BoolOp .Or (b :: es) pos) (tJb X.K ρ1 k m2 ρ2)) : PW X (.BoolOp .Or (a :: b :: es) pos) (tJb X.K ρ k (m1 || m2) ρ2) := PW_imp (pw_or ha hb) fun σ H Q q => by
  obtain ⟨M, F, own, S, q⟩ := q
  refine ⟨M, F, own, S, fun H1 own1 P1 => ?_⟩
  exact ⟨M, F, own1, P1.sl, fun H2 own2 P2 => q H2 own2 (P1.tr P2)⟩
theorem w_or0 (ha : PT X a (tJb X.K ρ true m1 ρ1)) : PW X (.BoolOp .Or (a :: b :: es) pos) (tJb X.K ρ true m1 ρ1) := PW_imp (pw_or ha pw_no) fun σ H Q q => by
  obtain ⟨M, F, own, S, q⟩ := q
  refine ⟨M, F, own, S, fun H1 own1 P1 => ?_⟩
  exact q H1 own1 P1
/-- a ≤ b ≤ c, up to the end; cut short -/
theorem r_lele1 {i j l : Int} (ha : PE X a (tJ X.K ρ (.im (.int i)) m1 ρ1)) (hb : PE X b (tJ X.K ρ1 (.im (.int j)) m2 ρ2)) (hc : PE X c (tJ X.K ρ2 (.im (.int l)) m3 ρ3)) (hl : lastMarks [.LtE, .LtE] [b, c] = false) (h : i ≤ j) :
    PE X (.Compare a [.LtE, .LtE] [b, c] pos) (tJ X.K ρ (.im (.bl (decide (j ≤ l)))) (m1 || (m2 || m3)) ρ3) ∧ PT X (.Compare a [.LtE, .LtE] [b, c] pos) (tJb X.K ρ (decide (j ≤ l)) (m1 || (m2 || m3)) ρ3) := by
  refine ⟨PE_imp (pe_chain op_le op_le ha hb hc hl) fun σ H Q q => ?_, PT_imp (pt_chain op_le op_le ha hb hc hl) fun σ H Q q => ?_⟩
  · obtain ⟨M, F, own, S, q⟩ := q
    refine ⟨M, F, own, S, fun v H1 own1 P1 V1 => ⟨M, F, own1, P1.sl, fun w H2 own2 P2 V2 => ⟨i, j, V1.is.int_v, V2.is.int_v, true, congrArg V.bl (decide_eq_true h), ?_⟩⟩⟩
    exact ⟨M, F, own2, P2.sl, fun z H3 own3 P3 V3 => ⟨j, l, V2.is.int_v, V3.is.int_v, q _ H3 own3 (P1.tr (P2.tr P3)) (.im (.bl _))⟩⟩
  · obtain ⟨M, F, own, S, q⟩ := q
    refine ⟨M, F, own, S, fun v H1 own1 P1 V1 => ⟨M, F, own1, P1.sl, fun w H2 own2 P2 V2 => ⟨i, j, V1.is.int_v, V2.is.int_v, true, congrArg V.bl (decide_eq_true h), ?_⟩⟩⟩
    exact ⟨M, F, own2, P2.sl, fun z H3 own3 P3 V3 => ⟨j, l, V2.is.int_v, V3.is.int_v, _, rfl, q H3 own3 (P1.tr (P2.tr P3))⟩⟩
theorem r_lele0 {i j : Int} (ha : PE X a (tJ X.K ρ (.im (.int i)) m1 ρ1)) (hb : PE X b (tJ X.K ρ1 (.im (.int j)) m2 ρ2)) (hl : lastMarks [.LtE, .LtE] [b, c] = false) (h : ¬ i ≤ j) :
    PE X (.Compare a [.LtE, .LtE] [b, c] pos) (tJ X.K ρ (.im (.bl false)) (m1 || m2) ρ2) ∧ PT X (.Compare a [.LtE, .LtE] [b, c] pos) (tJb X.K ρ false (m1 || m2) ρ2) := by
  refine ⟨PE_imp (pe_chain op_le op_le ha hb pe_no hl) fun σ H Q q => ?_, PT_imp (pt_chain op_le op_le ha hb pe_no hl) fun σ H Q q => ?_⟩
  · obtain ⟨M, F, own, S, q⟩ := q
    refine ⟨M, F, own, S, fun v H1 own1 P1 V1 => ⟨M, F, own1, P1.sl, fun w H2 own2 P2 V2 => ⟨i, j, V1.is.int_v, V2.is.int_v, false, congrArg V.bl (decide_eq_false h), ?_⟩⟩⟩
    exact q _ H2 own2 (P1.tr P2) (.im (.bl _))
  · obtain ⟨M, F, own, S, q⟩ := q
    refine ⟨M, F, own, S, fun v H1 own1 P1 V1 => ⟨M, F, own1, P1.sl, fun w H2 own2 P2 V2 => ⟨i, j, V1.is.int_v, V2.is.int_v, false, congrArg V.bl (decide_eq_false h), ?_⟩⟩⟩
    exact ⟨_, rfl, q H2 own2 (P1.tr P2)⟩
end
section
variable {K : PySem.W.Frag} {M own : List Addr} {F H : Hp} {σ : Sg} {ρ : Rho}
theorem Iss.dropLast {C : Hp} {vs : List V} {ds : List D} (h : Iss K C vs ds) : Iss K C vs.dropLast ds.dropLast := by
  rw [List.dropLast_eq_take, List.dropLast_eq_take, h.len]
  exact h.take _
theorem Rps.eraseIdx {C : Hp} : ∀ {vs : List V} {ts : List T} {f : List Addr} {j : Nat} {d : D}, Rps K C H vs ts f → ts[j]? = some (.im d) → ∃ v, vs[j]? = some v ∧ Is K C v d ∧ Rps K C H (vs.eraseIdx j) (ts.eraseIdx j) f
  | _, _, _, j, _, .nil, e => by simp at e
  | _, _, _, 0, d, .cons (t := t) r rs, e => by
    have e : t = .im d := Option.some.inj e
    subst e
    cases r with
    | im h => exact ⟨_, rfl, h, rs⟩
  | _, _, _, j + 1, d, .cons r rs, e => by
    obtain ⟨v, h1, h2, h3⟩ := Rps.eraseIdx (j := j) rs (by simpa using e)
    exact ⟨v, by simpa using h1, h2, .cons r h3⟩
/-- .. without the item at a place -/
theorem Sl.pop {i : Nat} {ts : List T} {j : Nat} {d : D} (S : Sl K M F own H σ ρ) (e : ρ[i]? = some (some (.ls ts))) (hj : ts[j]? = some (.im d)) :
    ∃ a xs v, σ[i]? = some (some (.ref a)) ∧ H a = some (.lst xs) ∧ xs.length = ts.length ∧ xs[j]? = some v ∧ ∃ own', Pst K M F own H σ true (ρ.set i (some (.ls (ts.eraseIdx j)))) (upd H a (.lst (xs.eraseIdx j))) own' ∧ Is K (cutl (own' ++ M) (upd H a (.lst (xs.eraseIdx j)))) v d := by
  obtain ⟨a, xs, f, ⟨w, hw, h0⟩, h1, h2, h3, h4, h5, h6, k⟩ := S.list (p := []) (t := .ls ts) e rfl
  cases h0
  obtain ⟨v, hv, hi, hr⟩ := h3.eraseIdx hj
  have hu : ∀ (b : Addr) (o : HO), b ≠ a → H b = some o → upd H a (.lst (xs.eraseIdx j)) b = some o := fun b o n q => by rw [upd_ne n]; exact q
  have hC : Sub (cutl (own ++ M) H) (cutl (own ++ M) (upd H a (.lst (xs.eraseIdx j)))) := fun b o q => by
    obtain ⟨q1, q2⟩ := cutl_some q
    rw [cutl_out q2]
    exact hu b o (fun z => q2 (by rw [z]; exact List.mem_append_left _ h2)) q1
  obtain ⟨own', S', s', c'⟩ := k (upd H a (.lst (xs.eraseIdx j))) (xs.eraseIdx j) (ts.eraseIdx j) f hu upd_same (fun C' hC' => hr.mono (hC.tr (Sub.tr (cutl_sub fun x hx => by
    simp only [List.mem_append] at hx ⊢
    rcases hx with (z | z) | z
    · exact .inl z
    · exact .inl (h4 x z)
    · exact .inr z) hC')) fun b hb o q => hu b o (fun z => h5 (by rw [← z]; exact hb)) q) h6 (fun b hb => .inl hb)
  refine ⟨a, xs, v, hw, h1, h3.len, hv, own', ⟨S', fun b hb => .inl ((s' b hb).elim id (h4 b)), c', fun z => nomatch z⟩, hi.mono c'⟩
end
section
variable {X : Cx} {e : Expr} {ρ ρ' ρ1 : Rho} {d : D} {m : Bool} {i : Nat} {x : Str} {p pos ap : Pos} {ts : List T}
theorem mt_ty {K : PySem.W.Frag} {H : Hp} {a : Addr} {xs : List V} (h : H a = some (.lst xs)) : tyV K "list" (.ref a) H := .inl ⟨rfl, xs, .inl (.inl h)⟩
theorem r_pop (hi : X.N[i]? = some x) (hv : Vis X.env.scope x) (h1 : (x == ("__debug__" : Str)) = false) (h2 : (x == ("__classdict__" : Str)) = false) (hl : (ap.endLine == pos.line) = true) (e : ρ[i]? = some (some (.ls ts))) (hj : ts[ts.length - 1]? = some (.im d)) :
    PE X (.Call (.Attribute (.Name x p) "pop" ap) [] [] pos) (tJ X.K ρ (.im d) true (ρ.set i (some (.ls ts.dropLast)))) := by
  refine PE_imp (pe_bm0 PySem.F.plainAttrs_list PySem.F.slot_list_pop PySem.F.type_list_pop mt_pop (pe_var hi hv h1 h2) (attr_plain rfl _ _) hl) fun σ H Q q => ?_
  obtain ⟨M, F, own, S, q⟩ := q
  obtain ⟨a, xs, v, e1, e2, e3, e4, own', P, hI⟩ := S.pop e hj
  refine ⟨_, e1, mt_ty e2, a, xs, v, rfl, rfl, e2, by rw [e3]; exact e4, ?_⟩
  have ed : ∀ {α : Type} (l : List α), l.eraseIdx (l.length - 1) = l.dropLast := fun l => by
    rw [List.eraseIdx_length_sub_one]
  rw [ed ts] at P
  rw [← e3, ed xs] at P hI
  exact q v _ own' P (.im hI)
theorem r_popAt {j : Nat} {k : Int} {ts0 : List T} (hi : X.N[i]? = some x) (hv : Vis X.env.scope x) (h1 : (x == ("__debug__" : Str)) = false) (h2 : (x == ("__classdict__" : Str)) = false) (hl : (ap.endLine == pos.line) = true) (hn : noStar [e] = true)
    (h : PE X e (tJ X.K ρ (.im (.int k)) m ρ1)) (h0 : ρ[i]? = some (some (.ls ts0))) (e1 : ρ1[i]? = some (some (.ls ts))) (hk : ixN ts.length k = some j) (hj : ts[j]? = some (.im d)) (hL : ts.length ≤ LIM) :
    PE X (.Call (.Attribute (.Name x p) "pop" ap) [e] [] pos) (tJ X.K ρ (.im d) true (ρ1.set i (some (.ls (ts.eraseIdx j))))) := by
  refine PE_imp (pe_bm PySem.F.plainAttrs_list PySem.F.slot_list_pop PySem.F.type_list_pop mt_popAt (pe_var hi hv h1 h2) (pa_cons h pa_nil (star_cons hn _)) (attr_plain rfl _ _) (few1 hn) hl (star_cons hn _) (back_none rfl)) fun σ H Q q => ?_
  obtain ⟨M, F, own, S, q⟩ := q
  obtain ⟨a0, xs0, _, ⟨w0, hw0, z0⟩, hx0, _⟩ := S.list (p := []) (t := .ls ts0) h0 rfl
  cases z0
  refine ⟨_, hw0, mt_ty hx0, M, F, own, S, fun v H1 own1 P1 V1 => ?_⟩
  obtain ⟨a, xs, w, e2, e3, e4, e5, own', P, hI⟩ := P1.sl.pop e1 hj
  rw [hw0] at e2
  cases e2
  obtain ⟨q1, q2, q3, q4⟩ := ixN_seq hk
  have hLL : LIM = 1000000 := rfl
  refine ⟨a0, xs, k, j, w, rfl, by rw [V1.is.int_v], e3, by omega, by omega, by rw [e4]; exact q1, e5, ?_⟩
  exact q w _ own' ((P1.tr P).weak fun z => nomatch z) (.im hI)
/-! ### new lists -/
theorem n_new {es : List Expr} {a : Expr} {te : TE} {ds : List D} (h : PE X a te) (k : ∀ σ H Q, (∃ (M : List Addr) (F : Hp) (own : List Addr), Sl X.K M F own H σ ρ ∧ ∀ (p : Addr) (xs : List V) (H1 : Hp) (own1 : List Addr), Pst X.K M F own H σ m ρ1 H1 own1 → H1 p = none → Iss X.K (cutl (own1 ++ M) H1) xs ds → Q (.ref p) (upd H1 p (.lst xs))) → te σ H Q) :
    PE X a (nJ X.K ρ (.ls (ds.map .im)) m ρ1) := PE_imp h fun σ H Q q => k σ H Q (by
  obtain ⟨M, F, own, S, q⟩ := q
  refine ⟨M, F, own, S, fun p xs H1 own1 P1 hp i => q _ _ own1 [p] ?_⟩
  have S1 := P1.sl
  obtain ⟨n, e1, e2, e3⟩ := new_cut (o := .lst xs) S1.dom hp
  have hC : Sub (cutl (own1 ++ M) H1) (cutl (own1 ++ ([p] ++ M)) (upd H1 p (.lst xs))) := fun b o z => by
    obtain ⟨z1, z2⟩ := cutl_some z
    rw [cutl_out ?_]
    · exact e1 b o z1
    · intro y
      simp only [List.mem_append, List.mem_singleton] at y z2
      rcases y with y | y | y
      · exact z2 (.inl y)
      · rw [y, hp] at z1; cases z1
      · exact z2 (.inr y)
  refine ⟨⟨S1.rel.mono hC fun b _ o z => e1 b o z, S1.nod, cut_sub, fun a ha => cutl_in ha, fun a ha => ?_⟩, ?_, List.nodup_cons.mpr ⟨List.not_mem_nil, List.nodup_nil⟩, fun a ha => ?_, P1.sub, P1.cl.tr hC, fun z => (P1.ext z).tr e1, S1.frame.tr e1⟩
  · rcases List.mem_append.mp ha with z | z
    · have z := List.mem_singleton.mp z
      refine ⟨.lst xs, ?_⟩
      rw [z, cutl_out fun y => n (List.mem_append_left _ y)]
      exact upd_same
    · obtain ⟨o, y⟩ := S1.inF a z
      exact ⟨o, by rw [cutl_out fun y => S1.notM y z]; exact e1 a o (S1.frame a o y)⟩
  · have r := Rp.ls (K := X.K) (C := cutl (own1 ++ ([p] ++ M)) (upd H1 p (.lst xs))) (upd_same (H := H1) (a := p) (o := .lst xs)) (Rps.ims (i.mono hC))
    exact Rps.one r
  · rw [List.mem_singleton.mp ha]
    exact back_new P1.cl S1.frame S1.inF hp)
end
end Em

set_option Elab.async false
set_option linter.all false
set_option maxRecDepth 100000
set_option maxHeartbeats 4000000
/-! EmP: rules for what gives new lists. -/
namespace Em
open PySem PySem.Spec PyProof.Rows L2

section
variable {X : Cx} {e a b c n : Expr} {ρ ρ' ρ1 ρ2 ρ3 : Rho} {t u : T} {d : D} {m m' m1 m2 m3 : Bool} {i : Nat} {x : Str} {p pos ap : Pos} {es : List Expr} {ts : List T}
theorem ims_eq : ∀ {ts : List T} {ds : List D}, imsOf ts = some ds → ts = ds.map .im
  | [], ds, e => by cases e; rfl
  | .im d :: ts, ds, e => by
    unfold imsOf at e
    cases q : imsOf ts with
    | none => rw [q] at e; cases e
    | some es =>
      rw [q] at e; cases e
      rw [ims_eq q]; rfl
  | .ls _ :: _, _, e => by cases e
theorem n_disp {ds : List D} (h : PEs X es ρ ts m ρ1) (hn : noStar es = true) (hi : imsOf ts = some ds) (hl : ts.length ≤ LIM) : PE X (.List es pos) (nJ X.K ρ (.ls ts) m ρ1) := by
  rw [ims_eq hi]
  refine n_new (es := es) (pe_lst (h.pa hn)) fun σ H Q q => ?_
  obtain ⟨M, F, own, S, q⟩ := q
  refine ⟨M, F, own, S, fun vs H1 own1 P1 V1 => ?_⟩
  obtain ⟨i1, _⟩ := V1.allIm hi
  exact ⟨by rw [V1.len]; exact le_line hl, fun p hp => q p vs H1 own1 P1 hp i1⟩
theorem flat_rep (n : Nat) (v : V) : (List.replicate n [v]).flatten = List.replicate n v := by
  induction n with
  | zero => rfl
  | succ n ih => rw [List.replicate_succ, List.flatten_cons, ih]; rfl
theorem n_rep {k : Int} (hs : noStar [a] = true) (ha : PE X a (tJ X.K ρ (.im d) m1 ρ1)) (hb : PE X b (tJ X.K ρ1 (.im (.int k)) m2 ρ2)) (h1 : k ≤ LIM) (h2 : -LIM ≤ k) : PE X (.BinOp (.List [a] p) .Mult b pos) (nJ X.K ρ (.ls (List.replicate k.toNat (.im d))) (m1 || m2) ρ2) := by
  have e : List.replicate k.toNat (T.im d) = (List.replicate k.toNat d).map T.im := by rw [List.map_replicate]
  rw [e]
  refine n_new (es := []) (pe_op op_rep (pe_lst (pa_cons ha pa_nil (star_cons hs _))) hb) fun σ H Q q => ?_
  obtain ⟨M, F, own, S, q⟩ := q
  refine ⟨M, F, own, S, fun v H1 own1 P1 V1 => ⟨by show 1 ≤ sizeLine; decide, fun l hl => ?_⟩⟩
  obtain ⟨_, e1, e2, e3⟩ := new_cut (o := .lst [v]) P1.sl.dom hl
  refine ⟨M, F, own1, P1.sl.grow e1, fun w H2 own2 P2 V2 => ?_⟩
  have P3 : Pst X.K M F own H σ m1 ρ1 (upd H1 l (.lst [v])) own1 := P1.grow e1
  have hL : LIM = 1000000 := rfl
  have hl2 : H2 l = some (.lst [v]) := cut_sub _ _ (P2.cl l _ e2)
  refine ⟨l, k, [v], rfl, V2.is.int_v, hl2, by omega, by omega, ?_, fun r hr => ?_⟩
  · have hz : sizeLine ≥ 1000000 := by decide
    simp only [List.length_cons, List.length_nil]
    omega
  · rw [flat_rep]
    exact q r _ H2 own2 (P3.tr P2) hr (Iss.rep ((V1.is.mono e3).mono P2.cl) _)
def rListA (K : PySem.W.Frag) : List V → Hp → VK → Prop := fun xs H Q => (∃ p ys, xs = [.ref p] ∧ (SqL K H p ys ∨ SqT K H p ys) ∧ ∀ l, H l = none → Q (.ref l) (upd H l (.lst ys))) ∨ rLstS xs H Q
theorem call_listA (hc : X.calm = true) : CallR X (.type "list") (rListA X.K) := call_list_of.or (call_lstS hc)
theorem n_list {ds : List D} (hc : X.calm = true) (hg : Gl X x) (hx : x = "list") (hm : X.mg x = none) (hn : noStar [a] = true) (h : PE X a (tJ X.K ρ t m ρ1)) (hw : t.walk = some ds) (hl : ds.length ≤ LIM) : PE X (.Call (.Name x p) [a] [] pos) (nJ X.K ρ (.ls (ds.map .im)) m ρ1) := by
  subst hx
  refine n_new (es := []) (pe_callTy (call_listA hc) hg hm bt_list (pa_cons h pa_nil (star_cons hn _)) (by decide) (by decide) (star_cons hn _) (back_none rfl)) fun σ H Q q => ?_
  obtain ⟨M, F, own, S, q⟩ := q
  refine ⟨M, F, own, S, fun v H1 own1 P1 V1 => ?_⟩
  have seq : t.seq? = some ds → rListA X.K [v] H1 Q := fun hq => by
    obtain ⟨a, xs, rfl, h1, h2⟩ := V1.seq_v hq cut_sub
    exact .inl ⟨a, xs, rfl, h1, fun l hl => q l xs H1 own1 P1 hl h2⟩
  cases t with
  | ls ts => exact seq hw
  | im d =>
    cases d with
    | lst xs => exact seq hw
    | tup xs => exact seq hw
    | str s =>
      cases hw
      have e := V1.is.str_v
      subst e
      rw [List.length_map] at hl
      exact .inr ⟨s, rfl, le_line hl, fun l hp => q l _ H1 own1 P1 hp (signs_is s)⟩
    | _ => cases hw
end

/-- the readings of all of an expression's evaluations -/
def uE (K : PySem.W.Frag) (m : Bool) (ev : Rho → Option (T × Rho)) : TE := fun σ H Q => ∃ ρ t ρ', ev ρ = some (t, ρ') ∧ nJ K ρ t m ρ' σ H Q
def uT (K : PySem.W.Frag) (m : Bool) (ev : Rho → Option (T × Rho)) : TT := fun σ H Q => ∃ ρ b ρ', ev ρ = some (.im (.bl b), ρ') ∧ tJb K ρ b m ρ' σ H Q
def uG (K : PySem.W.Frag) (pins : List Nat) (tg : Tg) : TG := fun v σ H Q => ∃ ρ d ρ', tg.bind pins d ρ = some ρ' ∧ gJ K pins tg.slots ρ d ρ' v σ H Q
theorem ue_of {X : Cx} {e : Expr} {m : Bool} {ev : Rho → Option (T × Rho)} (h : ∀ ρ t ρ', ev ρ = some (t, ρ') → PE X e (nJ X.K ρ t m ρ')) : PE X e (uE X.K m ev) := ⟨fun pins s σ H Q I q => by
  obtain ⟨ρ, t, ρ', e1, q⟩ := q
  exact (h ρ t ρ' e1).run pins s σ H Q I q⟩
theorem ut_of {X : Cx} {e : Expr} {m : Bool} {ev : Rho → Option (T × Rho)} (h : ∀ ρ b ρ', ev ρ = some (.im (.bl b), ρ') → PT X e (tJb X.K ρ b m ρ')) : PT X e (uT X.K m ev) := ⟨fun pins s σ H Q I q => by
  obtain ⟨ρ, t, ρ', e1, q⟩ := q
  exact (h ρ t ρ' e1).run pins s σ H Q I q⟩
theorem ug_of {X : Cx} {e : Expr} {pins : List Nat} {tg : Tg} (h : ∀ d ρ ρ', tg.bind pins d ρ = some ρ' → PG X e (gJ X.K pins tg.slots ρ d ρ')) : PG X e (uG X.K pins tg) := ⟨fun pins s σ H v u Q I r q => by
  obtain ⟨ρ, d, ρ', e1, q⟩ := q
  exact (h d ρ ρ' e1).run pins s σ H v u Q I r q⟩
theorem wipe_away {vs sl : List Nat} {σ σ' : Sg} {p : Nat → Prop} (a : Away (fun j => p j ∨ j ∉ sl) σ σ') (h : ∀ i ∈ sl, i ∈ vs) : wipe σ' vs = wipe σ vs := by
  apply List.ext_getElem?
  intro j
  by_cases hj : j ∈ vs
  · have key : ∀ {vs : List Nat} {σ : Sg}, j ∈ vs → (wipe σ vs)[j]? = if j < σ.length then some none else none := by
      intro vs
      induction vs with
      | nil => intro σ h; simp at h
      | cons v vs ih =>
        intro σ h
        unfold wipe
        by_cases e : v = j
        · subst e
          by_cases hv : v < σ.length
          · rw [List.getElem?_set_self (by rw [wipe_length]; exact hv), if_pos hv]
          · rw [List.getElem?_eq_none (by rw [List.length_set, wipe_length]; omega), if_neg hv]
        · rw [List.getElem?_set_ne e]
          exact ih ((List.mem_cons.mp h).resolve_left fun z => e z.symm)
    rw [key hj, key hj, a.1]
  · rw [wipe_out hj, wipe_out hj]
    exact a.2 j (.inr fun z => hj (h j z))
section
variable {K : PySem.W.Frag} {vs : List Nat} {tg : Tg}
def turn0 (vs : List Nat) (tg : Tg) (fv : Rho → Option (T × Rho)) (d : D) (ρ : Rho) : Option (Option T × Rho) := match tg.bind [] d ρ with
  | some ρ2 => match fv ρ2 with
    | some (u, ρ4) => some (some u, wipeR ρ4 vs)
    | none => none
  | none => none
def turn1 (vs : List Nat) (tg : Tg) (cv fv : Rho → Option (T × Rho)) (d : D) (ρ : Rho) : Option (Option T × Rho) := match tg.bind [] d ρ with
  | some ρ2 => match cv ρ2 with
    | some (.im (.bl true), ρ3) => match fv ρ3 with
      | some (u, ρ4) => some (some u, wipeR ρ4 vs)
      | none => none
    | some (.im (.bl false), ρ3) => some (none, wipeR ρ3 vs)
    | _ => none
  | none => none
/-- a step of stores, then the slots of the block wiped -/
theorem Gst.wiped {M own own1 : List Addr} {F H H1 : Hp} {σ σ0 : Sg} {ρ0 ρ1 : Rho} {m : Bool} {us : List V} {ts : List T} {fp : List Addr} (S : Sl K M F own H σ0 ρ0) (A : Gst K M F own H σ m ρ1 H1 own1 us ts fp) :
    ∃ own2, Gst K M F own H (wipe σ vs) m (wipeR ρ1 vs) H1 own2 us ts fp := by
  obtain ⟨own2, S2, s2⟩ := A.sl.wipe (vs := vs)
  have q := (Gst.tr S A (A.sl.gst S2 s2)).weak (m1 := m) (fun z => by rw [z]; rfl)
  rw [List.append_nil, List.append_nil, List.append_nil] at q
  exact ⟨own2, q⟩
theorem step0 {m : Bool} {fv : Rho → Option (T × Rho)} (hs : ∀ i ∈ tg.slots, i ∈ vs) : StepOk K vs m (uG K [] tg) tYes (uE K m fv) (turn0 vs tg fv) := by
  intro d ρ o ρ' ht M F own σ H x Q1 Q2 S i hw q1 q2
  unfold turn0 at ht
  split at ht
  · rename_i ρ2 hb
    split at ht
    · rename_i u ρ4 hf
      cases ht
      refine ⟨ρ, d, ρ2, hb, M, F, own, S, i, fun σ2 own2 S2 s2 a2 => ⟨by rw [wipe_away a2 hs, hw], ?_⟩⟩
      show uE K m fv σ2 H Q1
      refine ⟨ρ2, u, ρ4, hf, M, F, own2, S2, fun v H4 own4 fp P => ?_⟩
      have g1 := S.gst S2 s2
      obtain ⟨own5, g2⟩ := (Gst.tr S g1 (P.selfF S2)).wiped (vs := vs) S
      rw [wipe_away a2 hs, hw] at g2
      simp only [List.nil_append, Bool.false_or] at g2
      exact q1 u v H4 own5 fp rfl g2
    · cases ht
  · cases ht
theorem step1 {m1 m2 : Bool} {cv fv : Rho → Option (T × Rho)} (hs : ∀ i ∈ tg.slots, i ∈ vs) : StepOk K vs (m1 || m2) (uG K [] tg) (uT K m1 cv) (uE K m2 fv) (turn1 vs tg cv fv) := by
  intro d ρ o ρ' ht M F own σ H x Q1 Q2 S i hw q1 q2
  unfold turn1 at ht
  split at ht
  · rename_i ρ2 hb
    split at ht
    · rename_i ρ3 hc
      split at ht
      · rename_i u ρ4 hf
        cases ht
        refine ⟨ρ, d, ρ2, hb, M, F, own, S, i, fun σ2 own2 S2 s2 a2 => ⟨by rw [wipe_away a2 hs, hw], ρ2, true, ρ3, hc, M, F, own2, S2, fun H3 own3 P3 => ?_⟩⟩
        show uE K m2 fv σ2 H3 Q1
        refine ⟨ρ3, u, ρ4, hf, M, F, own3, P3.sl, fun v H4 own4 fp P => ?_⟩
        have g1 := S.gst S2 s2
        have g3 := Gst.tr S g1 (P3.gst.selfF S2)
        obtain ⟨own5, g2⟩ := (Gst.tr S g3 (P.selfF P3.sl)).wiped (vs := vs) S
        rw [wipe_away a2 hs, hw] at g2
        simp only [List.nil_append, Bool.false_or] at g2
        exact q1 u v H4 own5 fp rfl g2
      · cases ht
    · rename_i ρ3 hc
      cases ht
      refine ⟨ρ, d, ρ2, hb, M, F, own, S, i, fun σ2 own2 S2 s2 a2 => ⟨by rw [wipe_away a2 hs, hw], ρ2, false, ρ3, hc, M, F, own2, S2, fun H3 own3 P3 => ?_⟩⟩
      show Q2 H3
      have g1 := S.gst S2 s2
      obtain ⟨own5, g2⟩ := (Gst.tr S g1 (P3.gst.selfF S2)).wiped (vs := vs) S
      rw [wipe_away a2 hs, hw] at g2
      simp only [List.nil_append, Bool.false_or] at g2
      exact q2 H3 own5 rfl (g2.weak fun z => by simp at z; exact z.1)
    · cases ht
  · cases ht
end
section
variable {R : Env1} {k : Nat} {N : List Str} {sc raw : Scope} {X : Cx}
/-- the context of a comprehension's block -/
theorem Gd.blk (G : Gd R k N sc raw X) (scope : Scope) (s : Shared) (H : Hp) (C : Addr) (cl : List (Str × Addr)) (fp : List Addr) : Gd R k N (relS scope sc) scope (X.blk s H scope (compEnvC scope cl C X.env) fp) := by
  have hsc : (compEnvC scope cl C X.env).scope = relS scope sc := by
    show relabel scope X.env = relS scope sc
    rw [← G.scp]; rfl
  refine ⟨G.pr, G.ww, G.kk, G.mm, G.bb, G.nn, hsc, G.nd, G.calm, rfl, G.room, G.gua, fun x h => ?_⟩
  rcases h with h | h
  · have q : (relS scope sc).names.lookup x = some .local := lookup_relS_keep (by decide) h
    exact ⟨.inl q, .inr q⟩
  · have q : (relS scope sc).names.lookup x = some .cell := lookup_relS_keep (by decide) h
    refine ⟨.inr q, .inl ?_⟩
    show (scope.names.lookup x == some .cell) = true
    rw [h]; rfl
end
end Em

set_option Elab.async false
set_option linter.all false
set_option maxRecDepth 100000
set_option maxHeartbeats 4000000
/-! EmN2: dict comprehensions. -/
namespace Em
open PySem PySem.Spec PyProof.Rows L2

/-- one more pair, in the thing and in the tree -/
theorem put_iss {K : PySem.W.Frag} {C : Hp} {k : Key} {v : V} {d : D} : ∀ {kvs : List (Key × V)} {kds : List (Key × D)}, kvs.map (·.1) = kds.map (·.1) → Iss K C (kvs.map (·.2)) (kds.map (·.2)) → Is K C v d →
    (putK kvs k v).map (·.1) = (putD kds k d).map (·.1) ∧ Iss K C ((putK kvs k v).map (·.2)) ((putD kds k d).map (·.2)) := by
  intro kvs kds hk hi iv
  have any_eq : ∀ {kvs : List (Key × V)} {kds : List (Key × D)}, kvs.map (·.1) = kds.map (·.1) → (kvs.any fun kv => decide (kv.1 = k)) = (kds.any fun kd => decide (kd.1 = k)) := by
    intro kvs
    induction kvs with
    | nil =>
      intro kds h
      cases kds with
      | nil => rfl
      | cons a b => cases h
    | cons p r ih =>
      intro kds h
      cases kds with
      | nil => cases h
      | cons a b =>
        rw [List.map_cons, List.map_cons] at h
        injection h with h1 h2
        rw [List.any_cons, List.any_cons, h1, ih h2]
  have both : ∀ {kvs : List (Key × V)} {kds : List (Key × D)}, kvs.map (·.1) = kds.map (·.1) → Iss K C (kvs.map (·.2)) (kds.map (·.2)) →
      (kvs.map fun kv => if kv.1 = k then (kv.1, v) else kv).map (·.1) = (kds.map fun kd => if kd.1 = k then (kd.1, d) else kd).map (·.1) ∧ Iss K C ((kvs.map fun kv => if kv.1 = k then (kv.1, v) else kv).map (·.2)) ((kds.map fun kd => if kd.1 = k then (kd.1, d) else kd).map (·.2)) := by
    intro kvs
    induction kvs with
    | nil =>
      intro kds h hi
      cases kds with
      | nil => exact ⟨rfl, .nil⟩
      | cons a b => cases h
    | cons p r ih =>
      intro kds h hi
      cases kds with
      | nil => cases h
      | cons a b =>
        rw [List.map_cons, List.map_cons] at h
        injection h with h1 h2
        cases hi with
        | cons i1 i2 =>
          obtain ⟨g1, g2⟩ := ih h2 i2
          by_cases e : p.1 = k
          · have e2 : a.1 = k := by rw [← h1]; exact e
            simp only [List.map_cons, if_pos e, if_pos e2]
            exact ⟨by rw [g1, h1], .cons iv g2⟩
          · have e2 : ¬ a.1 = k := by rw [← h1]; exact e
            simp only [List.map_cons, if_neg e, if_neg e2]
            exact ⟨by rw [g1, h1], .cons i1 g2⟩
  unfold putK putD
  rw [any_eq hk]
  split
  · exact both hk hi
  · rw [List.map_append, List.map_append, List.map_append, List.map_append]
    exact ⟨by rw [hk]; rfl, hi.app (.one iv)⟩
/-- a dict comprehension over a walk -/
theorem dc_it {J : L2.It} {n : Nat} {G : Hp → Prop} {Y : Nat → Hp → V → Hp → Prop} (w : Walk J n G Y) {g : TG} {tt : TT} {ka va : TE} {vs : List Nat} {σ : Sg} {H1 : Hp} {D0 : Addr} {Qd : Hp → Prop} (Pv : Nat → Hp → Prop)
    (h0 : Pv 0 (upd H1 D0 (.dK []))) (hG : ∀ i H, i ≤ n → Pv i H → G H)
    (hs : ∀ i x H H', i < n → Pv i H → Y i H x H' → g x (wipe σ vs) H' fun σ2 H2 => wipe σ2 vs = wipe σ vs ∧ tt σ2 H2 fun b H3 =>
      if b = true then ka σ2 H3 fun y H4 => va σ2 H4 fun z H5 => ∃ kvs k, y = kV k ∧ H5 D0 = some (.dK kvs) ∧ kvs.length < sizeLine ∧ Pv (i + 1) (upd H5 D0 (.dK (putK kvs k z))) else Pv (i + 1) H3) (hd : ∀ H, Pv n H → Qd H) :
    ∃ W : Nat → Nat → Hp → Prop, (∃ m, W 0 m (upd H1 D0 (.dK []))) ∧ ∀ i m H, W i m H →
      (J.stop i H ∧ Qd H) ∨ (J.go i H ∧ ∃ N : Hp → Prop, (∀ H', N H' → ∃ m', m' < m ∧ W (i + 1) m' H') ∧ ∀ x H', J.yld i H x H' → g x (wipe σ vs) H' fun σ2 H2 => wipe σ2 vs = wipe σ vs ∧ tt σ2 H2 fun b H3 =>
        if b = true then ka σ2 H3 fun y H4 => va σ2 H4 fun z H5 => ∃ kvs k, y = kV k ∧ H5 D0 = some (.dK kvs) ∧ kvs.length < sizeLine ∧ N (upd H5 D0 (.dK (putK kvs k z))) else N H3) := by
  refine ⟨fun i m H => i ≤ n ∧ m = n - i ∧ Pv i H, ⟨n, Nat.zero_le _, rfl, h0⟩, ?_⟩
  rintro i m H ⟨hi, rfl, p⟩
  have q := hG i H hi p
  rcases Nat.lt_or_eq_of_le hi with hlt | e
  · exact .inr ⟨w.goes i H hlt q, Pv (i + 1), fun H' p' => ⟨n - (i + 1), by omega, hlt, rfl, p'⟩, fun x H' y => hs i x H H' hlt p (w.yields i H x H' hlt q y)⟩
  · subst e
    exact .inl ⟨w.stops H q, hd H p⟩
/-- one turn: a key and a value -/
def turnD (vs : List Nat) (tg : Tg) (kf vf : Rho → Option (T × Rho)) (d : D) (ρ : Rho) : Option (Option T × Rho) := match tg.bind [] d ρ with
  | some ρ2 => match kf ρ2 with
    | some (.im kd, ρ3) => match vf ρ3 with
      | some (.im vd, ρ4) => match kd.key with
        | some _ => some (some (.im (.tup [kd, vd])), wipeR ρ4 vs)
        | none => none
      | _ => none
    | _ => none
  | none => none
def imE (f : Rho → Option (T × Rho)) (ρ : Rho) : Option (T × Rho) := match f ρ with
  | some (.im d, ρ1) => some (.im d, ρ1)
  | _ => none
theorem imE_some {f : Rho → Option (T × Rho)} {ρ ρ' : Rho} {t : T} (h : imE f ρ = some (t, ρ')) : ∃ d, t = .im d ∧ f ρ = some (.im d, ρ') := by
  unfold imE at h
  split at h
  · rename_i d ρ1 e
    cases h
    exact ⟨d, rfl, e⟩
  · cases h
def StepD (K : PySem.W.Frag) (vs : List Nat) (m : Bool) (g : TG) (ka va : TE) (turn : D → Rho → Option (Option T × Rho)) : Prop := ∀ (d : D) (ρ : Rho) (o : Option T) (ρ' : Rho), turn d ρ = some (o, ρ') → ∃ kd vd k, o = some (.im (.tup [kd, vd])) ∧ kd.key = some k ∧
  ∀ (M : List Addr) (F : Hp) (own : List Addr) (σ : Sg) (H : Hp) (x : V) (Q1 : V → V → Hp → Prop), Sl K M F own H σ ρ → Is K (cutl (own ++ M) H) x d → wipe σ vs = σ →
    (∀ y z H4 own', Gst K M F own H σ m ρ' H4 own' [y, z] [.im kd, .im vd] [] → Q1 y z H4) →
    g x σ H fun σ2 H2 => wipe σ2 vs = σ ∧ ka σ2 H2 fun y H4 => va σ2 H4 fun z H5 => Q1 y z H5
theorem stepD {K : PySem.W.Frag} {vs : List Nat} {tg : Tg} {m1 m2 : Bool} {kf vf : Rho → Option (T × Rho)} (hs : ∀ i ∈ tg.slots, i ∈ vs) : StepD K vs (m1 || m2) (uG K [] tg) (uE K m1 (imE kf)) (uE K m2 (imE vf)) (turnD vs tg kf vf) := by
  intro d ρ o ρ' ht
  unfold turnD at ht
  split at ht
  · rename_i ρ2 hb
    split at ht
    · rename_i kd ρ3 hk
      split at ht
      · rename_i vd ρ4 hv
        split at ht
        · rename_i k hkey
          cases ht
          refine ⟨kd, vd, k, rfl, hkey, fun M F own σ H x Q1 S i hw q1 => ?_⟩
          refine ⟨ρ, d, ρ2, hb, M, F, own, S, i, fun σ2 own2 S2 s2 a2 => ⟨by rw [wipe_away a2 hs, hw], ?_⟩⟩
          refine ⟨ρ2, .im kd, ρ3, by unfold imE; rw [hk], M, F, own2, S2, fun y H4 own4 fp P => ?_⟩
          obtain rfl : fp = [] := by
            have r := P.rp
            cases r with
            | cons r1 r2 =>
              cases r1
              cases r2
              rfl
          refine ⟨ρ3, .im vd, ρ4, by unfold imE; rw [hv], M, cutl own4 H4, own4, P.sl, fun z H5 own5 fp P2 => ?_⟩
          obtain rfl : fp = [] := by
            have r := P2.rp
            cases r with
            | cons r1 r2 =>
              cases r1
              cases r2
              rfl
          have g1 := S.gst S2 s2
          have g2 := Gst.tr S g1 (P.selfF S2)
          have g3 := Gst.tr S g2 P2
          obtain ⟨own6, g4⟩ := g3.wiped (vs := vs) S
          rw [wipe_away a2 hs, hw] at g4
          simp only [List.nil_append, Bool.false_or] at g4
          exact q1 y z H5 own6 g4
        · cases ht
      · cases ht
    · cases ht
  · cases ht
/-- how it stands at a turn: the new dict lies at D0 -/
structure GD (K : PySem.W.Frag) (M : List Addr) (F : Hp) (own : List Addr) (H : Hp) (σ : Sg) (m : Bool) (ρ : Rho) (D0 : Addr) (H' : Hp) (own' : List Addr) (kvs : List (Key × V)) (kds : List (Key × D)) : Prop where
  sl : Sl K (D0 :: M) (cutl own' H') own' H' σ ρ
  at_ : H' D0 = some (.dK kvs)
  key : kvs.map (·.1) = kds.map (·.1)
  iss : Iss K (cutl (own' ++ D0 :: M) H') (kvs.map (·.2)) (kds.map (·.2))
  sub : ∀ a ∈ own', a ∈ own ∨ H a = none
  cl : Sub (cutl (own ++ M) H) (cutl (own' ++ D0 :: M) H')
  ext : m = false → Sub H H'
  fr : Sub F H'
section
variable {K : PySem.W.Frag} {M own own' own4 : List Addr} {F H H' H2 H4 : Hp} {σ σ0 : Sg} {m : Bool} {ρ ρ0 ρ4 : Rho} {D0 : Addr} {kvs : List (Key × V)} {kds : List (Key × D)}
theorem GD.grow (A : GD K M F own H σ m ρ D0 H' own' kvs kds) (e : Sub H' H2) : GD K M F own H σ m ρ D0 H2 own' kvs kds :=
  ⟨(A.sl.grow e).self, e _ _ A.at_, A.key, A.iss.mono (cut_ext e), A.sub, A.cl.tr (cut_ext e), fun z => (A.ext z).tr e, A.fr.tr e⟩
theorem GD.notown (A : GD K M F own H σ m ρ D0 H' own' kvs kds) : D0 ∉ own' := fun z => A.sl.notM z List.mem_cons_self
theorem GD.push {y z : V} {kd vd : D} {k : Key} (S : Sl K M F own H σ0 ρ0) (hD : H D0 = none) (A : GD K M F own H σ m ρ D0 H' own' kvs kds) (P : Gst K (D0 :: M) (cutl own' H') own' H' σ m ρ4 H4 own4 [y, z] [.im kd, .im vd] []) (hk : kd.key = some k) :
    y = kV k ∧ H4 D0 = some (.dK kvs) ∧ GD K M F own H σ m ρ4 D0 (upd H4 D0 (.dK (putK kvs k z))) own4 (putK kvs k z) (putD kds k vd) := by
  have h4 : H4 D0 = some (.dK kvs) := P.fr _ _ (by rw [cutl_out A.notown]; exact A.at_)
  have n4 : D0 ∉ own4 := P.notown (.inr List.mem_cons_self)
  have hz : Is K (cutl (own4 ++ D0 :: M) H4) z vd ∧ y = kV k := by
    have two : ∀ {C H : Hp} {fp : List Addr}, Rps K C H [y, z] [.im kd, .im vd] fp → Is K C y kd ∧ Is K C z vd := by
      intro C H fp r
      cases r with
      | cons r1 r2 =>
        cases r2 with
        | cons r3 r4 =>
          cases r1 with
          | im i1 =>
            cases r3 with
            | im i2 => exact ⟨i1, i2⟩
    obtain ⟨i1, i2⟩ := two P.rp
    exact ⟨i2, key_v i1 hk⟩
  have hu : ∀ a, a ≠ D0 → ∀ o, H4 a = some o → upd H4 D0 (.dK (putK kvs k z)) a = some o := fun a n o e => by rw [upd_ne n]; exact e
  have cC : Sub (cutl (own4 ++ D0 :: M) H4) (cutl (own4 ++ D0 :: M) (upd H4 D0 (.dK (putK kvs k z)))) := fun a o e => by
    obtain ⟨e1, e2⟩ := cutl_some e
    rw [cutl_out e2]
    exact hu a (fun w => e2 (by rw [w]; simp)) o e1
  obtain ⟨p1, p2⟩ := put_iss (k := k) A.key (A.iss.mono P.cl) hz.1
  refine ⟨hz.2, h4, ?_, upd_same, p1, p2.mono cC, fun a ha => ?_, (A.cl.tr P.cl).tr cC, fun e a o q => ?_, fun a o q => ?_⟩
  · have s := P.sl
    refine ⟨s.rel.mono cC fun a ha o e => hu a (fun w => n4 (by rw [← w]; exact ha)) o e, s.nod, cut_sub, fun a ha => cutl_in ha, fun a ha => ?_⟩
    obtain ⟨o, e⟩ := s.inF a ha
    obtain ⟨e1, e2⟩ := cutl_some e
    by_cases w : a = D0
    · exact ⟨_, by rw [cutl_out e2, w]; exact upd_same⟩
    · exact ⟨o, by rw [cutl_out e2]; exact hu a w o e1⟩
  · rcases P.sub a ha with q | q
    · exact A.sub a q
    · refine back_new (own1 := own') (F := F) (A.cl.tr (cutl_sub fun b hb => ?_)) A.fr S.inF q
      rcases List.mem_append.mp hb with w | w <;> simp [w]
  · exact hu a (ne_of_none q hD) o (P.ext e a o (A.ext e a o q))
  · refine hu a (ne_of_none q (S.newF hD)) o (P.fr a o ?_)
    rw [cutl_out fun w => ?_]
    · exact A.fr a o q
    · rcases A.sub a w with x | x
      · have := S.ownF a x
        rw [this] at q
        cases q
      · have := S.newF x
        rw [this] at q
        cases q
end
theorem imsOf_cons {t : T} {ts : List T} {us : List D} (h : imsOf (t :: ts) = some us) : ∃ d r, t = .im d ∧ imsOf ts = some r ∧ us = d :: r := by
  cases t with
  | ls xs => cases h
  | im d =>
    unfold imsOf at h
    cases hr : imsOf ts with
    | none => rw [hr] at h; cases h
    | some r =>
      rw [hr] at h
      cases h
      exact ⟨d, r, rfl, rfl, rfl⟩
theorem pairsD_cons {kd vd : D} {k : Key} {us : List D} {r : List (Key × D)} (hk : kd.key = some k) (h : pairsD (.tup [kd, vd] :: us) = some r) : ∃ r2, pairsD us = some r2 ∧ r = (k, vd) :: r2 := by
  unfold pairsD at h
  rw [hk] at h
  cases hr : pairsD us with
  | none => rw [hr] at h; cases h
  | some r2 =>
    rw [hr] at h
    cases h
    exact ⟨r2, rfl, rfl⟩
theorem rps_im1 {K : PySem.W.Frag} {C H : Hp} {v : V} {d : D} : ∀ {fp : List Addr}, Rps K C H [v] [.im d] fp → Is K C v d := by
  intro fp r
  cases r with
  | cons r1 r2 =>
    cases r1 with
    | im i1 => exact i1
theorem putD_len {kds : List (Key × D)} {k : Key} {d : D} : (putD kds k d).length ≤ kds.length + 1 := by
  unfold putD
  split
  · rw [List.length_map]; omega
  · rw [List.length_append]; exact Nat.le_refl _
theorem dc_reading {K : PySem.W.Frag} {vs : List Nat} {m1 m2 : Bool} {g : TG} {ka va : TE} {turn : D → Rho → Option (Option T × Rho)} {ρ ρ1 ρ5 : Rho} {ds us : List D} {ts : List T} {kr : List (Key × D)} (hs : StepD K vs m2 g ka va turn) (hc : compL turn ds (wipeR ρ1 vs) = some (ts, ρ5))
    (hi : imsOf ts = some us) (hk : pairsD us = some kr) (hp : plain vs ρ1 = true) (hl : ds.length ≤ LIM)
    (σ : Sg) (H : Hp) (Q : VK) (q : tJ K ρ (.im (dctOf kr)) (m1 || m2) (restore vs ρ1 ρ5) σ H Q) : tDc (iJ K ρ ds m1 ρ1) g tYes ka va vs σ H Q := by
  obtain ⟨M, F, own, S, q⟩ := q
  refine ⟨M, F, own, S, fun J H1 own1 P wd D0 hD => ?_⟩
  have S1 := P.sl
  obtain ⟨own2, S2, s2⟩ := S1.wipe (vs := vs)
  obtain ⟨G, Y, w, wG, wY⟩ := wd
  have cW : Sub (cutl (own1 ++ M) H1) (cutl (own2 ++ M) H1) := cutl_sub fun a ha => by
    rcases List.mem_append.mp ha with z | z
    · exact List.mem_append_left _ (s2 a z)
    · exact List.mem_append_right _ z
  refine dc_it w (fun i H => ∃ ρi own' kvs kds rest us' kr', GD K M F own2 H1 (wipe σ vs) m2 ρi D0 H own' kvs kds ∧ compL turn (ds.drop i) ρi = some (rest, ρ5) ∧ (imsOf rest = some us' ∧ pairsD us' = some kr') ∧
    kr'.foldl (fun m kd => putD m kd.1 kd.2) kds = kr.foldl (fun m kd => putD m kd.1 kd.2) [] ∧ kds.length ≤ i) ?_ ?_ ?_ ?_
  · have nD : ∀ a, H1 a = none → a ∉ own2 ++ M := fun a z m => by
      obtain ⟨o, e⟩ := S2.dom a m
      rw [z] at e; cases e
    have hu : ∀ a, a ≠ D0 → ∀ o, H1 a = some o → upd H1 D0 (.dK []) a = some o := fun a n o e => by rw [upd_ne n]; exact e
    have nn : ∀ {a : Addr} {o : HO}, H1 a = some o → a ≠ D0 := fun e => ne_of_none e hD
    have cc : Sub (cutl (own2 ++ M) H1) (cutl (own2 ++ D0 :: M) (upd H1 D0 (.dK []))) := fun a o e => by
      obtain ⟨e4, e5⟩ := cutl_some e
      rw [cutl_out fun z => ?_]
      · exact hu a (nn e4) o e4
      · simp only [List.mem_append, List.mem_cons] at z e5
        rcases z with z | z | z
        · exact e5 (.inl z)
        · exact nn e4 z
        · exact e5 (.inr z)
    refine ⟨wipeR ρ1 vs, own2, [], [], ts, us, kr, ⟨?_, upd_same, rfl, .nil, fun a ha => .inl ha, cc, fun _ a o e => hu a (nn e) o e, S2.frame.tr fun a o e => hu a (nn e) o e⟩, hc, ⟨hi, hk⟩, rfl, Nat.zero_le _⟩
    refine ⟨S2.rel.mono cc fun a _ o e => hu a (nn e) o e, S2.nod, cut_sub, fun a ha => cutl_in ha, fun a ha => ?_⟩
    rcases List.mem_cons.mp ha with z | z
    · refine ⟨.dK [], ?_⟩
      rw [z, cutl_out fun m => nD D0 hD (List.mem_append_left _ m)]
      exact upd_same
    · obtain ⟨o, e⟩ := S2.inF a z
      have e1 := S2.frame a o e
      exact ⟨o, by rw [cutl_out fun m => S2.notM m z]; exact hu a (nn e1) o e1⟩
  · rintro i H _ ⟨ρi, own', kvs, kds, rest, us', kr', A, _⟩
    exact wG H ((cW.tr A.cl).tr cut_sub)
  · rintro i x H H' hlt ⟨ρi, own', kvs, kds, rest, us', kr', A, c1, ⟨c2, c3⟩, c4, c5⟩ y
    have cA : Sub (cutl (own1 ++ M) H1) (cutl (own' ++ D0 :: M) H) := cW.tr A.cl
    obtain ⟨ext, val⟩ := wY i H x H' hlt (cA.tr cut_sub) y
    obtain ⟨d, e1, e2⟩ := val (own' ++ D0 :: M) A.sl.dom cA
    have B := A.grow ext
    have hdrop : ds.drop i = d :: ds.drop (i + 1) := by
      obtain ⟨h2, e⟩ := List.getElem?_eq_some_iff.mp e1
      rw [List.drop_eq_getElem_cons h2, e]
    rw [hdrop] at c1
    obtain ⟨o, ρ2, ts2, ht, hr, rfl⟩ := compL_cons c1
    obtain ⟨kd, vd, k, rfl, hkey, run⟩ := hs d ρi o ρ2 ht
    obtain ⟨d2, us2, ed, b2, rfl⟩ := imsOf_cons c2
    cases ed
    obtain ⟨kr2, b3, rfl⟩ := pairsD_cons hkey c3
    have key := run (D0 :: M) (cutl own' H') own' (wipe σ vs) H' x
      (fun y z H5 => ∃ kvs k, y = kV k ∧ H5 D0 = some (.dK kvs) ∧ kvs.length < sizeLine ∧ ∃ ρi own' kvs' kds rest us' kr', GD K M F own2 H1 (wipe σ vs) m2 ρi D0 (upd H5 D0 (.dK (putK kvs k z))) own' kvs' kds ∧ compL turn (ds.drop (i + 1)) ρi = some (rest, ρ5) ∧ (imsOf rest = some us' ∧ pairsD us' = some kr') ∧
        kr'.foldl (fun m kd => putD m kd.1 kd.2) kds = kr.foldl (fun m kd => putD m kd.1 kd.2) [] ∧ kds.length ≤ i + 1)
      B.sl e2 wipe_wipe (fun y z H4 own4 C => ?_)
    · exact key
    · obtain ⟨a1, a2, a3⟩ := GD.push S2 hD B C hkey
      refine ⟨kvs, k, a1, a2, ?_, ρ2, own4, _, _, ts2, us2, kr2, a3, hr, ⟨b2, b3⟩, c4, Nat.le_trans putD_len (Nat.succ_le_succ c5)⟩
      have : kvs.length = kds.length := by
        have := congrArg List.length A.key
        simpa using this
      rw [this]
      exact Nat.lt_of_lt_of_le (Nat.lt_of_le_of_lt c5 hlt) (Nat.le_trans hl lim_le)
  · rintro H ⟨ρi, own', kvs, kds, rest, us', kr', A, c1, ⟨c2, c3⟩, c4, _⟩
    rw [List.drop_length] at c1
    cases c1
    cases c2
    cases c3
    have cD : Sub (cutl (own' ++ D0 :: M) H) (cutl (own' ++ M) H) := cutl_sub fun a ha => by
      rcases List.mem_append.mp ha with z | z <;> simp [z]
    have S0 : Sl K M F own' H (wipe σ vs) ρ5 := ⟨A.sl.rel.mono cD fun _ _ _ e => e, A.sl.nod, A.fr, fun a ha => (A.sub a ha).elim (S2.ownF a) S2.newF, S2.inF⟩
    have cl2 : Sub (cutl (own2 ++ M) H1) (cutl (own' ++ M) H) := A.cl.tr cD
    have dD : Is K (cutl (own' ++ M) H) (.ref D0) (mkDct kds) := by
      refine .dct (.inl ?_) A.key rfl (A.iss.mono cD)
      rw [cutl_out fun z => ?_]
      · exact A.at_
      · rcases List.mem_append.mp z with z | z
        · exact A.notown z
        · obtain ⟨o, e⟩ := S2.inF D0 z
          have := S2.frame D0 o e
          rw [hD] at this
          cases this
    obtain ⟨own3, S3, s3⟩ := S1.unwipe (cW.tr cl2) (wipe_length σ vs) hp S0
    rw [restS_wipe] at S3
    have g1 : Gst K M (cutl own1 H1) own1 H1 (wipe σ vs) false (wipeR ρ1 vs) H1 own2 [] [] [] := S1.self.gst S2 s2
    have gA : Gst K M F own2 H1 (wipe σ vs) m2 ρ5 H own' [.ref D0] [.im (mkDct kds)] [] := ⟨S0.self, Rps.one (.im dD), List.nodup_nil, fun _ h => absurd h List.not_mem_nil, A.sub, cl2, A.ext, A.fr⟩
    have g3 := Gst.tr S1.self g1 (gA.selfF S2)
    have g4 := Gst.tr S1.self g3 (gA.sl.gst S3 s3)
    have g5 := (Gst.tr S P.gst g4).weak (m1 := m1 || m2) (fun z => by simp at z ⊢; exact z)
    simp only [List.nil_append, List.append_nil] at g5
    have ek : mkDct kds = dctOf kr := by
      unfold dctOf
      rw [← c4]
      rfl
    rw [ek] at g5
    refine q _ _ _ (g5.pst S) ?_
    exact .im (rps_im1 g5.rp)
end Em

set_option Elab.async false
set_option linter.all false
set_option maxRecDepth 100000
set_option maxHeartbeats 4000000
/-! EmQ: which text an expression of the small language stands for. -/
namespace Em
open PySem PySem.Spec PyProof.Rows L2

structure Ck where
  bi : List Str
  N : List Str
  gname : Nat → Option Str
  fname : Nat → Option Str
def visB (sc : Scope) (x : Str) : Bool := match sc.names.lookup x with
  | some .local => true
  | some .cell => true
  | some .free => true
  | _ => false
def glB (sc : Scope) (x : Str) : Bool := decide (sc.names.lookup x = some .globalImplicit)
def okName (N : List Str) (sc : Scope) (i : Nat) (x : Str) : Bool := decide (N[i]? = some x) && (visB sc x && (!(x == ("__debug__" : Str)) && !(x == ("__classdict__" : Str))))
def okVar (N : List Str) (sc : Scope) (i : Nat) : Expr → Bool
  | .Name x _ => okName N sc i x
  | _ => false
def okLit : D → Expr → Bool
  | .int i, .Constant (.int j) _ _ => decide (i = j)
  | .bl b, .Constant (.bool c) _ _ => decide (b = c)
  | .non, .Constant .none _ _ => true
  | .str s, .Constant (.str x) _ _ => decide (s = x.cps.toList)
  | _, _ => false
def isCmp : Op → Bool
  | .eq | .ne | .lt | .le | .gt | .ge | .in_ | .nin | .isN | .notN => true
  | _ => false
def noSet : Expr → Bool
  | .Set _ _ _ => false
  | _ => true
def ownOf (N : List Str) (vs : List Nat) : List (Str × Nat) := vs.filterMap fun v => (N[v]?).map fun x => (x, v)
def isTupE : Expr → Bool
  | .Tuple _ _ _ => true
  | _ => false
def sameOwn (N : List Str) (vs : List Nat) : Bool := decide ((ownOf N vs).map (·.2) = vs)
/-- a call of a plain name with plain arguments -/
def callN : Expr → Option (Str × List Expr)
  | .Call (.Name x _) es [] _ => if noStar es = true then some (x, es) else none
  | _ => none
def methN (y : Str) : Expr → Option (Expr × List Expr)
  | .Call (.Attribute o x ap) es [] pos => if x = y ∧ noSuper o = true ∧ noStar es = true ∧ (ap.endLine == pos.line) = true then some (o, es) else none
  | _ => none
def glN : Expr → Option Str
  | .Name x _ => some x
  | _ => none
def andN : Expr → Option (List Expr)
  | .BoolOp .And xs _ => some xs
  | _ => none
def orN : Expr → Option (List Expr)
  | .BoolOp .Or xs _ => some xs
  | _ => none
def notN : Expr → Option Expr
  | .UnaryOp .Not x _ => some x
  | _ => none
def iteN : Expr → Option (Expr × Expr × Expr)
  | .IfExp a b d _ => some (a, b, d)
  | _ => none
def listN : Expr → Option (List Expr)
  | .List xs _ => if noStar xs = true then some xs else none
  | _ => none
def repN : Expr → Option (Expr × Expr)
  | .BinOp (.List [x] _) .Mult y _ => if noStar [x] = true then some (x, y) else none
  | _ => none
def compN : Expr → Option (Expr × Expr × Expr × List Expr × Scope)
  | .ListComp elt [⟨t, iter, ifs, 0⟩] scope _ => some (elt, t, iter, ifs, scope)
  | _ => none
def dcompN : Expr → Option (Expr × Expr × Expr × Expr × Scope)
  | .DictComp kx vx [⟨t, iter, [], 0⟩] scope _ => some (kx, vx, t, iter, scope)
  | _ => none
theorem dcompN_some {x kx vx t iter : Expr} {scope : Scope} (h : dcompN x = some (kx, vx, t, iter, scope)) : ∃ p, x = .DictComp kx vx [⟨t, iter, [], 0⟩] scope p := by
  unfold dcompN at h
  split at h <;> cases h
  exact ⟨_, rfl⟩
theorem glN_some {x : Expr} {y : Str} (h : glN x = some y) : ∃ p, x = .Name y p := by
  unfold glN at h
  split at h <;> cases h
  exact ⟨_, rfl⟩
theorem andN_some {x : Expr} {xs : List Expr} (h : andN x = some xs) : ∃ p, x = .BoolOp .And xs p := by
  unfold andN at h
  split at h <;> cases h
  exact ⟨_, rfl⟩
theorem orN_some {x : Expr} {xs : List Expr} (h : orN x = some xs) : ∃ p, x = .BoolOp .Or xs p := by
  unfold orN at h
  split at h <;> cases h
  exact ⟨_, rfl⟩
theorem notN_some {x y : Expr} (h : notN x = some y) : ∃ p, x = .UnaryOp .Not y p := by
  unfold notN at h
  split at h <;> cases h
  exact ⟨_, rfl⟩
theorem iteN_some {x a b d : Expr} (h : iteN x = some (a, b, d)) : ∃ p, x = .IfExp a b d p := by
  unfold iteN at h
  split at h <;> cases h
  exact ⟨_, rfl⟩
theorem listN_some {x : Expr} {xs : List Expr} (h : listN x = some xs) : ∃ p, x = .List xs p ∧ noStar xs = true := by
  unfold listN at h
  split at h
  · split at h
    · cases h
      exact ⟨_, rfl, by assumption⟩
    · cases h
  · cases h
theorem repN_some {x a b : Expr} (h : repN x = some (a, b)) : ∃ q p, x = .BinOp (.List [a] q) .Mult b p ∧ noStar [a] = true := by
  unfold repN at h
  split at h
  · split at h
    · cases h
      exact ⟨_, _, rfl, by assumption⟩
    · cases h
  · cases h
theorem compN_some {x elt t iter : Expr} {ifs : List Expr} {scope : Scope} (h : compN x = some (elt, t, iter, ifs, scope)) : ∃ p, x = .ListComp elt [⟨t, iter, ifs, 0⟩] scope p := by
  unfold compN at h
  split at h <;> cases h
  exact ⟨_, rfl⟩
section
variable (c : Ck)
mutual
/-- as a test -/
def tst : Ex → Expr → Bool
  | .and_ es, x => match andN x with
    | some xs => tsts es xs
    | none => false
  | .or_ es, x => match orN x with
    | some xs => tsts es xs
    | none => false
  | .not_ e, x => match notN x with
    | some y => tst e y
    | none => false
  | .lele _ _ _, _ => true
  | .op o _, x => plainTest x || isCmp o
  | .ite _ _ _, _ => false
  | .var _, x => plainTest x
  | .frz _, x => plainTest x
  | .lit _, x => plainTest x
  | .glob _, x => plainTest x
  | .pop _, x => plainTest x
  | .popAt _ _, x => plainTest x
  | .fr _, x => plainTest x
  | .dcomp _ _ _ _ _, _ => false
def tsts : Exs → List Expr → Bool
  | .nil, [] => true
  | .cons e es, x :: xs => tst e x && tsts es xs
  | _, _ => false
end
mutual
def okE (sc raw : Scope) : Ex → Expr → Bool
  | .var i, x => okVar c.N sc i x
  | .frz i, x => okVar c.N sc i x
  | .lit d, x => okLit d x
  | .glob g, x => match glN x with
    | some y => decide (c.gname g = some y) && glB sc y
    | none => false
  | .op o es, x => match shape c.bi sc o x with
    | some xs => okEs sc raw es xs
    | none => false
  | .and_ es, x => match andN x with
    | some xs => okEs sc raw es xs
    | none => false
  | .or_ es, x => match orN x with
    | some xs => okEs sc raw es xs
    | none => false
  | .not_ e, x => match notN x with
    | some y => okE sc raw e y
    | none => false
  | .lele e f g, x => match shChain x with
    | some [a, b, d] => okE sc raw e a && (okE sc raw f b && okE sc raw g d)
    | _ => false
  | .ite e f g, x => match iteN x with
    | some (a, b, d) => okE sc raw e a && (tst e a && (okE sc raw f b && okE sc raw g d))
    | none => false
  | .pop i, x => match methN "pop" x with
    | some (o, []) => okVar c.N sc i o
    | _ => false
  | .popAt i e, x => match methN "pop" x with
    | some (o, [a]) => okVar c.N sc i o && okE sc raw e a
    | _ => false
  | .fr f, x => okF sc raw f x
  | .dcomp vs tg it k v, x => match dcompN x with
    | some (kx, vx, t, iter, scope) => okIt sc raw it t iter && (noSet iter && (sameOwn c.N vs && (blkC c.N sc scope (ownOf c.N vs) && (okTg c.N scope tg t && (tg.slots.all (fun i => vs.contains i) &&
      (okE (relS scope sc) scope k kx && okE (relS scope sc) scope v vx))))))
    | _ => false
def okEs (sc raw : Scope) : Exs → List Expr → Bool
  | .nil, [] => true
  | .cons e es, x :: xs => okE sc raw e x && okEs sc raw es xs
  | _, _ => false
def okA (sc raw : Scope) : Ags → List Expr → Bool
  | .nil, [] => true
  | .fx f r, x :: xs => okF sc raw f x && okA sc raw r xs
  | .ref i r, x :: xs => okVar c.N sc i x && okA sc raw r xs
  | _, _ => false
def okF (sc raw : Scope) : Fx → Expr → Bool
  | .ex e, x => okE sc raw e x
  | .disp es, x => match listN x with
    | some xs => okEs sc raw es xs
    | none => false
  | .rep e n, x => match repN x with
    | some (a, b) => okE sc raw e a && okE sc raw n b
    | none => false
  | .list e, x => match callN x with
    | some (y, [a]) => bcall c.bi sc y "list" && okE sc raw e a
    | _ => false
  | .comp vs tg it f, x => match compN x with
    | some (elt, t, iter, [], scope) => okIt sc raw it t iter && (noSet iter && (sameOwn c.N vs && (blkC c.N sc scope (ownOf c.N vs) && (okTg c.N scope tg t && (tg.slots.all (fun i => vs.contains i) && okF (relS scope sc) scope f elt)))))
    | _ => false
  | .compIf vs tg it e f, x => match compN x with
    | some (elt, t, iter, [a], scope) => okIt sc raw it t iter && (noSet iter && (sameOwn c.N vs && (blkC c.N sc scope (ownOf c.N vs) && (okTg c.N scope tg t && (tg.slots.all (fun i => vs.contains i) &&
      (okE (relS scope sc) scope e a && (tst e a && okF (relS scope sc) scope f elt)))))))
    | _ => false
  | .call g as, x => match callN x with
    | some (y, xs) => decide (c.fname g = some y) && (glB sc y && okA sc raw as xs)
    | none => false
def okIt (sc raw : Scope) : It → Expr → Expr → Bool
  | .ex e, _, x => okE sc raw e x
  | .rng1 a, _, x => match callN x with
    | some (y, [p]) => bcall c.bi sc y "range" && okE sc raw a p
    | _ => false
  | .rng2 a b, _, x => match callN x with
    | some (y, [p, q]) => bcall c.bi sc y "range" && (okE sc raw a p && okE sc raw b q)
    | _ => false
  | .rng3 a b d, _, x => match callN x with
    | some (y, [p, q, r]) => bcall c.bi sc y "range" && (okE sc raw a p && (okE sc raw b q && okE sc raw d r))
    | _ => false
  | .enum a, t, x => match callN x with
    | some (y, [p]) => isTupE t && (bcall c.bi sc y "enumerate" && okE sc raw a p)
    | _ => false
  | .zip a b, t, x => match callN x with
    | some (y, [p, q]) => isTupE t && (bcall c.bi sc y "zip" && (okE sc raw a p && okE sc raw b q))
    | _ => false
end
end
theorem callN_some {x : Expr} {y : Str} {es : List Expr} (h : callN x = some (y, es)) : ∃ p pos, x = .Call (.Name y p) es [] pos ∧ noStar es = true := by
  unfold callN at h
  split at h
  · split at h
    · rename_i hn
      cases h
      exact ⟨_, _, rfl, hn⟩
    · cases h
  · cases h
theorem methN_some {x o : Expr} {y : Str} {es : List Expr} (h : methN y x = some (o, es)) : ∃ ap pos, x = .Call (.Attribute o y ap) es [] pos ∧ noSuper o = true ∧ noStar es = true ∧ (ap.endLine == pos.line) = true := by
  unfold methN at h
  split at h
  · split at h
    · rename_i hn
      cases h
      obtain ⟨h1, h2⟩ := hn
      subst h1
      exact ⟨_, _, rfl, h2⟩
    · cases h
  · cases h
theorem vis_of {sc : Scope} {x : Str} (h : visB sc x = true) : Vis sc x := by
  unfold visB at h
  unfold Vis
  split at h
  · rename_i q; exact .inl q
  · rename_i q; exact .inr (.inl q)
  · rename_i q; exact .inr (.inr q)
  · cases h
theorem okName_of {N : List Str} {sc : Scope} {i : Nat} {x : Str} (h : okName N sc i x = true) : N[i]? = some x ∧ Vis sc x ∧ (x == ("__debug__" : Str)) = false ∧ (x == ("__classdict__" : Str)) = false := by
  obtain ⟨h1, h⟩ := Bool.and_eq_true_iff.mp h
  obtain ⟨h2, h⟩ := Bool.and_eq_true_iff.mp h
  obtain ⟨h3, h4⟩ := Bool.and_eq_true_iff.mp h
  exact ⟨of_decide_eq_true h1, vis_of h2, by simpa using h3, by simpa using h4⟩
theorem okVar_of {N : List Str} {sc : Scope} {i : Nat} {e : Expr} (h : okVar N sc i e = true) : ∃ x p, e = .Name x p ∧ N[i]? = some x ∧ Vis sc x ∧ (x == ("__debug__" : Str)) = false ∧ (x == ("__classdict__" : Str)) = false := by
  cases e <;> first
    | (exact ⟨_, _, rfl, okName_of h⟩)
    | (unfold okVar at h; cases h)
/-- what the soundness of expressions rests on -/
structure Lk (R : Env1) (k : Nat) (c : Ck) (Φ : Fns) (G : Nat → Option D) : Prop where
  bi : c.bi = R.bi
  glob : ∀ g x d, c.gname g = some x → G g = some d → ∀ N sc raw X p, Gd R k N sc raw X → sc.names.lookup x = some .globalImplicit → ∃ v, PE X (.Name x p) (tC v) ∧ ∀ H, Is X.K H v d
  call : ∀ g x, c.fname g = some x → ∀ N sc raw X, Gd R k N sc raw X → sc.names.lookup x = some .globalImplicit → ∀ es pos p t, noStar es = true → PA X es t → PE X (.Call (.Name x p) es [] pos) (fun σ H Q => t σ H fun vs H1 => Ctr Φ g X.K vs H1 Q)
section
variable {R : Env1} {k : Nat} {c : Ck} {Φ : Fns} {G : Nat → Option D}
theorem own_of {N : List Str} {vs : List Nat} (h : sameOwn N vs = true) : (ownOf N vs).map (·.2) = vs := of_decide_eq_true h
theorem fold_of {iter : Expr} (h : noSet iter = true) (env : Env) (x : Value) : foldedSetIterable iter env x = pure x := by
  cases iter <;> first | rfl | cases h
theorem lit_ok {X : Cx} {d : D} {e : Expr} (h : okLit d e = true) : ∃ v, PE X e (tC v) ∧ ∀ H, Is X.K H v d := by
  unfold okLit at h
  split at h
  · have := of_decide_eq_true h
    subst this
    exact ⟨_, pe_int, fun H => .int _⟩
  · have := of_decide_eq_true h
    subst this
    exact ⟨_, pe_bl, fun H => .bl _⟩
  · exact ⟨_, pe_non, fun H => .non⟩
  · have := of_decide_eq_true h
    subst this
    exact ⟨_, pe_str, fun H => Is.str _⟩
  · cases h
end
end Em

set_option Elab.async false
set_option linter.all false
set_option maxRecDepth 100000
set_option maxHeartbeats 8000000
/-! EmR: the text computes what the small language's expression computes. -/
namespace Em
open PySem PySem.Spec PyProof.Rows L2
section
variable {R : Env1} {k : Nat} {c : Ck} {Φ : Fns} {G : Nat → Option D}
theorem tst_op {o : Op} {x : Expr} (h : (plainTest x || isCmp o) = true) : plainTest x = true ∨ o = .eq ∨ o = .ne ∨ o = .lt ∨ o = .le ∨ o = .gt ∨ o = .ge ∨ o = .in_ ∨ o = .nin ∨ o = .isN ∨ o = .notN := by
  rcases Bool.or_eq_true_iff.mp h with h | h
  · exact .inl h
  · cases o <;> first | (simp; done) | cases h
/-- as a value and, where the form allows it, as a test -/
def EOk (X : Cx) (x : Expr) (ρ : Rho) (t : T) (m : Bool) (ρ' : Rho) (tb : Bool) : Prop := PE X x (tJ X.K ρ t m ρ') ∧ (tb = true → ∀ b, t = .im (.bl b) → PT X x (tJb X.K ρ b m ρ'))
theorem EOk.pl {X : Cx} {x : Expr} {ρ ρ' : Rho} {t : T} {m tb : Bool} (h : PE X x (tJ X.K ρ t m ρ')) (p : tb = true → plainTest x = true) : EOk X x ρ t m ρ' tb := ⟨h, fun z b e => by
  subst e
  exact PT_of h (p z)⟩
theorem EOk.m {X : Cx} {x : Expr} {ρ ρ' : Rho} {t : T} {m m' tb : Bool} (h : EOk X x ρ t m ρ' tb) (w : m' = false → m = false) : EOk X x ρ t m' ρ' tb := ⟨PE_m h.1 w, fun z b e => PT_m (h.2 z b e) w⟩
mutual
theorem E_sound (L : Lk R k c Φ G) : ∀ (e : Ex) (sc raw : Scope) (X : Cx) (x : Expr) (ρ ρ' : Rho) (t : T), Gd R k c.N sc raw X → okE c sc raw e x = true → e.ev Φ G ρ = some (t, ρ') → EOk X x ρ t e.mut ρ' (tst e x)
  | .var i, sc, raw, X, x, ρ, ρ', t, gd, ok, h => by
    obtain ⟨y, p, rfl, h1, h2, h3, h4⟩ := okVar_of ok
    unfold Ex.ev at h
    split at h
    · rename_i u hu
      cases h
      exact .pl (r_var (by rw [gd.nn]; exact h1) (by rw [gd.scp]; exact h2) h3 h4 hu) fun z => z
    · cases h
  | .frz i, sc, raw, X, x, ρ, ρ', t, gd, ok, h => by
    obtain ⟨y, p, rfl, h1, h2, h3, h4⟩ := okVar_of ok
    unfold Ex.ev at h
    split at h
    · rename_i u hu
      cases h
      exact .pl (r_frz (by rw [gd.nn]; exact h1) (by rw [gd.scp]; exact h2) h3 h4 hu) fun z => z
    · cases h
  | .lit d, sc, raw, X, x, ρ, ρ', t, gd, ok, h => by
    cases h
    obtain ⟨v, h1, h2⟩ := lit_ok (X := X) (show okLit d x = true from ok)
    exact .pl (r_const h1 (h2)) fun z => z
  | .glob g, sc, raw, X, x, ρ, ρ', t, gd, ok, h => by
    unfold okE at ok
    split at ok
    · rename_i y hy
      obtain ⟨p, rfl⟩ := glN_some hy
      obtain ⟨h1, h2⟩ := Bool.and_eq_true_iff.mp ok
      unfold Ex.ev at h
      split at h
      · rename_i d hd
        cases h
        obtain ⟨v, h3, h4⟩ := L.glob g _ d (of_decide_eq_true h1) hd _ sc raw X p gd (of_decide_eq_true h2)
        exact .pl (r_const h3 h4) fun z => z
      · cases h
    · cases ok
  | .op o es, sc, raw, X, x, ρ, ρ', t, gd, ok, h => by
    unfold okE at ok
    split at ok
    · rename_i xs hs
      unfold Ex.ev at h
      split at h
      · rename_i ts ρ1 he
        split at h
        · rename_i u hr
          cases h
          rw [L.bi] at hs
          have hp := Es_sound L es sc raw X xs ρ _ ts gd ok he
          refine ⟨op_sound gd o hs hp hr, fun z b e => ?_⟩
          subst e
          exact op_test gd o hs hp hr (tst_op z)
        · cases h
      · cases h
    · cases ok
  | .and_ es, sc, raw, X, x, ρ, ρ', t, gd, ok, h => by
    unfold okE at ok
    split at ok
    · rename_i xs hx
      obtain ⟨p, rfl⟩ := andN_some hx
      unfold Ex.ev at h
      split at h
      · rename_i b ρ1 hb
        cases h
        obtain ⟨h1, h2⟩ := And_sound L es sc raw X xs p ρ _ b gd ok hb
        refine ⟨h1, fun z b' e => ?_⟩
        cases e
        exact (h2 (by simpa [tst, andN] using z)).pt
      · cases h
    · cases ok
  | .or_ es, sc, raw, X, x, ρ, ρ', t, gd, ok, h => by
    unfold okE at ok
    split at ok
    · rename_i xs hx
      obtain ⟨p, rfl⟩ := orN_some hx
      unfold Ex.ev at h
      split at h
      · rename_i b ρ1 hb
        cases h
        obtain ⟨h1, h2⟩ := Or_sound L es sc raw X xs p ρ _ b gd ok hb
        refine ⟨h1, fun z b' e => ?_⟩
        cases e
        exact (h2 (by simpa [tst, orN] using z)).pt
      · cases h
    · cases ok
  | .not_ e, sc, raw, X, x, ρ, ρ', t, gd, ok, h => by
    unfold okE at ok
    split at ok
    · rename_i y hy
      obtain ⟨p, rfl⟩ := notN_some hy
      unfold Ex.ev at h
      split at h
      · rename_i b ρ1 hb
        cases h
        obtain ⟨h1, h2⟩ := E_sound L e sc raw X y ρ _ _ gd ok hb
        refine ⟨r_not h1, fun z b' e' => ?_⟩
        cases e'
        exact t_not (h2 (by simpa [tst, notN] using z) b rfl)
      · cases h
    · cases ok
  | .lele e f g, sc, raw, X, x, ρ, ρ', t, gd, ok, h => by
    unfold okE at ok
    split at ok
    · rename_i a b d hx
      obtain ⟨a', b', d', pos, rfl, e1, hl⟩ := sh_chain hx
      cases e1
      obtain ⟨k1, ok⟩ := Bool.and_eq_true_iff.mp ok
      obtain ⟨k2, k3⟩ := Bool.and_eq_true_iff.mp ok
      unfold Ex.ev at h
      split at h
      · rename_i i ρ1 h1
        split at h
        · rename_i j ρ2 h2
          have p1 := (E_sound L e sc raw X a ρ _ _ gd k1 h1).1
          have p2 := (E_sound L f sc raw X b ρ1 _ _ gd k2 h2).1
          split at h
          · rename_i hij
            split at h
            · rename_i l ρ3 h3
              cases h
              have p3 := (E_sound L g sc raw X d ρ2 _ _ gd k3 h3).1
              obtain ⟨q1, q2⟩ := r_lele1 (pos := pos) p1 p2 p3 hl hij
              refine ⟨q1, fun z b' e' => ?_⟩
              cases e'
              exact q2
            · cases h
          · rename_i hij
            cases h
            obtain ⟨q1, q2⟩ := r_lele0 (pos := pos) (c := d) p1 p2 hl hij
            refine ⟨PE_m q1 fun z => by simp only [Ex.mut, Bool.or_eq_false_iff] at z ⊢; exact ⟨z.1, z.2.1⟩, fun z b' e' => ?_⟩
            cases e'
            exact PT_m q2 fun z => by simp only [Ex.mut, Bool.or_eq_false_iff] at z ⊢; exact ⟨z.1, z.2.1⟩
        · cases h
      · cases h
    · cases ok
  | .ite e f g, sc, raw, X, x, ρ, ρ', t, gd, ok, h => by
    unfold okE at ok
    split at ok
    · rename_i a b d hx
      obtain ⟨p, rfl⟩ := iteN_some hx
      obtain ⟨k1, ok⟩ := Bool.and_eq_true_iff.mp ok
      obtain ⟨k2, ok⟩ := Bool.and_eq_true_iff.mp ok
      obtain ⟨k3, k4⟩ := Bool.and_eq_true_iff.mp ok
      unfold Ex.ev at h
      split at h
      · rename_i ρ1 h1
        have p1 := (E_sound L e sc raw X a ρ _ _ gd k1 h1).2 k2 true rfl
        have p2 := (E_sound L f sc raw X b ρ1 _ _ gd k3 h).1
        exact ⟨r_ite (m3 := g.mut) p1 (fun _ => p2) (fun z => nomatch z), fun z => by unfold tst at z; cases z⟩
      · rename_i ρ1 h1
        have p1 := (E_sound L e sc raw X a ρ _ _ gd k1 h1).2 k2 false rfl
        have p2 := (E_sound L g sc raw X d ρ1 _ _ gd k4 h).1
        exact ⟨r_ite (m2 := f.mut) p1 (fun z => nomatch z) (fun _ => p2), fun z => by unfold tst at z; cases z⟩
      · cases h
    · cases ok
  | .pop i, sc, raw, X, x, ρ, ρ', t, gd, ok, h => by
    unfold okE at ok
    split at ok
    · rename_i o hx
      obtain ⟨ap, pos, rfl, h1, h2, h3⟩ := methN_some hx
      obtain ⟨y, p, rfl, k1, k2, k3, k4⟩ := okVar_of ok
      unfold Ex.ev at h
      split at h
      · rename_i ts hts
        split at h
        · rename_i d hd
          cases h
          exact .pl (r_pop (by rw [gd.nn]; exact k1) (by rw [gd.scp]; exact k2) k3 k4 h3 hts hd) fun z => z
        · cases h
      · cases h
    · cases ok
  | .popAt i e, sc, raw, X, x, ρ, ρ', t, gd, ok, h => by
    unfold okE at ok
    split at ok
    · rename_i o a hx
      obtain ⟨ap, pos, rfl, h1, h2, h3⟩ := methN_some hx
      obtain ⟨ok1, ok2⟩ := Bool.and_eq_true_iff.mp ok
      obtain ⟨y, p, rfl, k1, k2, k3, k4⟩ := okVar_of ok1
      unfold Ex.ev at h
      split at h
      · rename_i ts0 hts0
        split at h
        · rename_i kk ρ1 he
          split at h
          · rename_i ts hts
            split at h
            · rename_i j hj
              split at h
              · rename_i d hd
                split at h
                · rename_i hL
                  cases h
                  have p1 := (E_sound L e sc raw X a ρ _ _ gd ok2 he).1
                  exact .pl (r_popAt (by rw [gd.nn]; exact k1) (by rw [gd.scp]; exact k2) k3 k4 h3 h2 p1 hts0 hts hj hd hL) fun z => z
                · cases h
              · cases h
            · cases h
          · cases h
        · cases h
      · cases h
    · cases ok
  | .fr f, sc, raw, X, x, ρ, ρ', t, gd, ok, h => by
    unfold Ex.ev at h
    split at h
    · rename_i u ρ1 hu
      cases h
      exact .pl (tJ_of (F_sound L f sc raw X x ρ _ u gd ok hu)) fun z => z
    · cases h
  | .dcomp vs tg it ke ve, sc, raw, X, x, ρ, ρ', t, gd, ok, h => by
    unfold okE at ok
    split at ok
    · rename_i kx vx tx iter scope hx
      obtain ⟨p, rfl⟩ := dcompN_some hx
      obtain ⟨k1, ok⟩ := Bool.and_eq_true_iff.mp ok
      obtain ⟨k2, ok⟩ := Bool.and_eq_true_iff.mp ok
      obtain ⟨k3, ok⟩ := Bool.and_eq_true_iff.mp ok
      obtain ⟨k4, ok⟩ := Bool.and_eq_true_iff.mp ok
      obtain ⟨k5, ok⟩ := Bool.and_eq_true_iff.mp ok
      obtain ⟨k6, ok⟩ := Bool.and_eq_true_iff.mp ok
      obtain ⟨k7, k8⟩ := Bool.and_eq_true_iff.mp ok
      unfold Ex.ev at h
      split at h
      · rename_i ds ρ1 hi
        split at h
        · rename_i hp
          obtain ⟨hp, hl⟩ := Bool.and_eq_true_iff.mp hp
          split at h
          · rename_i ts ρ5 hc
            split at h
            · rename_i us hu
              split at h
              · rename_i kds hkd
                cases h
                have hc : compL (turnD vs tg (ke.ev Φ G) (ve.ev Φ G)) ds (wipeR ρ1 vs) = some (ts, ρ5) := hc
                have hsub : ∀ i ∈ tg.slots, i ∈ vs := fun i hi => by simpa using List.all_eq_true.mp k6 i hi
                have hdc := pe_dc (X := X) (kx := kx) (vx := vx) (pos := p) (g := uG X.K [] tg) (tt := tYes) (tk := uE X.K ke.mut (imE (ke.ev Φ G))) (tv := uE X.K ve.mut (imE (ve.ev Φ G))) gd.calm (by rw [gd.nn]; exact gd.nd) (I_sound L it sc raw X tx iter ρ ρ1 ds gd k1 hi) (blkOk_by (by rw [gd.nn, gd.scp]; exact k4))
                  (fun s H C cl fp => ug_of (pins := []) (tg := tg) fun d ρ ρ' hb => tg_sound (gd.blk scope s H C cl fp) tg tx d ρ ρ' k5 hb)
                  (fun s H C cl fp => pts_nil)
                  (fun s H C cl fp => ue_of (m := ke.mut) (ev := imE (ke.ev Φ G)) fun ρ t ρ' he => by
                    obtain ⟨d, rfl, he2⟩ := imE_some he
                    exact nJ_im (E_sound L ke (relS scope sc) scope _ kx ρ ρ' _ (gd.blk scope s H C cl fp) k7 he2).1)
                  (fun s H C cl fp => ue_of (m := ve.mut) (ev := imE (ve.ev Φ G)) fun ρ t ρ' he => by
                    obtain ⟨d, rfl, he2⟩ := imE_some he
                    exact nJ_im (E_sound L ve (relS scope sc) scope _ vx ρ ρ' _ (gd.blk scope s H C cl fp) k8 he2).1) (fun x => fold_of k2 _ x)
                rw [own_of k3] at hdc
                exact .pl (PE_imp hdc (dc_reading (stepD hsub) hc hu hkd hp (of_decide_eq_true hl))) fun z => nomatch z
              · cases h
            · cases h
          · cases h
        · cases h
      · cases h
    · cases ok
theorem Es_sound (L : Lk R k c Φ G) : ∀ (es : Exs) (sc raw : Scope) (X : Cx) (xs : List Expr) (ρ ρ' : Rho) (ts : List T), Gd R k c.N sc raw X → okEs c sc raw es xs = true → es.evs Φ G ρ = some (ts, ρ') → PEs X xs ρ ts es.mut ρ'
  | .nil, sc, raw, X, xs, ρ, ρ', ts, gd, ok, h => by
    cases xs with
    | nil => cases h; exact .nil
    | cons x xs => unfold okEs at ok; cases ok
  | .cons e es, sc, raw, X, xs, ρ, ρ', ts, gd, ok, h => by
    cases xs with
    | nil => unfold okEs at ok; cases ok
    | cons x xs =>
      unfold okEs at ok
      obtain ⟨h1, h2⟩ := Bool.and_eq_true_iff.mp ok
      unfold Exs.evs at h
      split at h
      · rename_i t ρ1 he
        split at h
        · rename_i ts2 ρ2 hs
          split at h
          · cases h
          · rename_i hm
            cases h
            refine .cons (E_sound L e sc raw X x ρ ρ1 t gd h1 he).1 (Es_sound L es sc raw X xs ρ1 _ ts2 gd h2 hs) fun z => ?_
            rw [z] at hm
            simpa using hm
        · cases h
      · cases h
theorem And_sound (L : Lk R k c Φ G) : ∀ (es : Exs) (sc raw : Scope) (X : Cx) (xs : List Expr) (p : Pos) (ρ ρ' : Rho) (b : Bool), Gd R k c.N sc raw X → okEs c sc raw es xs = true → es.evAnd Φ G ρ = some (b, ρ') →
    PE X (.BoolOp .And xs p) (tJ X.K ρ (.im (.bl b)) es.mut ρ') ∧ (tsts es xs = true → PW X (.BoolOp .And xs p) (tJb X.K ρ b es.mut ρ'))
  | .nil, sc, raw, X, xs, p, ρ, ρ', b, gd, ok, h => by unfold Exs.evAnd at h; cases h
  | .cons e es, sc, raw, X, xs, p, ρ, ρ', b, gd, ok, h => by
    cases xs with
    | nil => unfold okEs at ok; cases ok
    | cons x xs =>
      unfold okEs at ok
      obtain ⟨k1, k2⟩ := Bool.and_eq_true_iff.mp ok
      cases es with
      | nil =>
        cases xs with
        | cons y ys => unfold okEs at k2; cases k2
        | nil =>
          unfold Exs.evAnd at h
          split at h
          · rename_i b' ρ1 he
            cases h
            obtain ⟨q1, q2⟩ := E_sound L e sc raw X x ρ _ _ gd k1 he
            refine ⟨PE_m (pe_one q1) fun z => (Bool.or_eq_false_iff.mp z).1, fun z => PW_m (pw_and1 (q2 ?_ b rfl)) fun z => (Bool.or_eq_false_iff.mp z).1⟩
            unfold tsts at z
            exact (Bool.and_eq_true_iff.mp z).1
          · cases h
      | cons e2 es =>
        cases xs with
        | nil => unfold okEs at k2; cases k2
        | cons y ys =>
          unfold Exs.evAnd at h
          split at h
          · rename_i ρ1 he
            obtain ⟨q1, q2⟩ := E_sound L e sc raw X x ρ _ _ gd k1 he
            obtain ⟨q3, q4⟩ := And_sound L (.cons e2 es) sc raw X (y :: ys) p ρ1 _ b gd k2 h
            refine ⟨r_and1 q1 q3, fun z => ?_⟩
            unfold tsts at z
            obtain ⟨z1, z2⟩ := Bool.and_eq_true_iff.mp z
            exact w_and1 (q2 z1 true rfl) (q4 z2)
          · rename_i ρ1 he
            cases h
            obtain ⟨q1, q2⟩ := E_sound L e sc raw X x ρ _ _ gd k1 he
            refine ⟨PE_m (r_and0 q1) fun z => (Bool.or_eq_false_iff.mp z).1, fun z => ?_⟩
            unfold tsts at z
            obtain ⟨z1, z2⟩ := Bool.and_eq_true_iff.mp z
            exact PW_m (w_and0 (q2 z1 false rfl)) fun z => (Bool.or_eq_false_iff.mp z).1
          · cases h
theorem Or_sound (L : Lk R k c Φ G) : ∀ (es : Exs) (sc raw : Scope) (X : Cx) (xs : List Expr) (p : Pos) (ρ ρ' : Rho) (b : Bool), Gd R k c.N sc raw X → okEs c sc raw es xs = true → es.evOr Φ G ρ = some (b, ρ') →
    PE X (.BoolOp .Or xs p) (tJ X.K ρ (.im (.bl b)) es.mut ρ') ∧ (tsts es xs = true → PW X (.BoolOp .Or xs p) (tJb X.K ρ b es.mut ρ'))
  | .nil, sc, raw, X, xs, p, ρ, ρ', b, gd, ok, h => by unfold Exs.evOr at h; cases h
  | .cons e es, sc, raw, X, xs, p, ρ, ρ', b, gd, ok, h => by
    cases xs with
    | nil => unfold okEs at ok; cases ok
    | cons x xs =>
      unfold okEs at ok
      obtain ⟨k1, k2⟩ := Bool.and_eq_true_iff.mp ok
      cases es with
      | nil =>
        cases xs with
        | cons y ys => unfold okEs at k2; cases k2
        | nil =>
          unfold Exs.evOr at h
          split at h
          · rename_i b' ρ1 he
            cases h
            obtain ⟨q1, q2⟩ := E_sound L e sc raw X x ρ _ _ gd k1 he
            refine ⟨PE_m (pe_one q1) fun z => (Bool.or_eq_false_iff.mp z).1, fun z => PW_m (pw_or1 (q2 ?_ b rfl)) fun z => (Bool.or_eq_false_iff.mp z).1⟩
            unfold tsts at z
            exact (Bool.and_eq_true_iff.mp z).1
          · cases h
      | cons e2 es =>
        cases xs with
        | nil => unfold okEs at k2; cases k2
        | cons y ys =>
          unfold Exs.evOr at h
          split at h
          · rename_i ρ1 he
            obtain ⟨q1, q2⟩ := E_sound L e sc raw X x ρ _ _ gd k1 he
            obtain ⟨q3, q4⟩ := Or_sound L (.cons e2 es) sc raw X (y :: ys) p ρ1 _ b gd k2 h
            refine ⟨r_or1 q1 q3, fun z => ?_⟩
            unfold tsts at z
            obtain ⟨z1, z2⟩ := Bool.and_eq_true_iff.mp z
            exact w_or1 (q2 z1 false rfl) (q4 z2)
          · rename_i ρ1 he
            cases h
            obtain ⟨q1, q2⟩ := E_sound L e sc raw X x ρ _ _ gd k1 he
            refine ⟨PE_m (r_or0 q1) fun z => (Bool.or_eq_false_iff.mp z).1, fun z => ?_⟩
            unfold tsts at z
            obtain ⟨z1, z2⟩ := Bool.and_eq_true_iff.mp z
            exact PW_m (w_or0 (q2 z1 true rfl)) fun z => (Bool.or_eq_false_iff.mp z).1
          · cases h
theorem A_sound (L : Lk R k c Φ G) : ∀ (as : Ags) (sc raw : Scope) (X : Cx) (xs : List Expr) (ρ ρ' : Rho) (ars : List Ar), Gd R k c.N sc raw X → noStar xs = true → okA c sc raw as xs = true → as.eva Φ G ρ = some (ars, ρ') → PA X xs (aJ X.K ρ ars true ρ')
  | .nil, sc, raw, X, xs, ρ, ρ', ars, gd, hn, ok, h => by
    cases xs with
    | cons x xs => unfold okA at ok; cases ok
    | nil =>
      cases h
      refine PA_imp pa_nil fun σ H Q q => ?_
      obtain ⟨M, F, own, S, q⟩ := q
      exact q [] H own [] [] [] ((Pst.rf S).gst.weak fun z => nomatch z) .nil
  | .fx f r, sc, raw, X, xs, ρ, ρ', ars, gd, hn, ok, h => by
    cases xs with
    | nil => unfold okA at ok; cases ok
    | cons x xs =>
      unfold okA at ok
      obtain ⟨k1, k2⟩ := Bool.and_eq_true_iff.mp ok
      unfold Ags.eva at h
      split at h
      · rename_i t ρ1 hf
        split at h
        · rename_i as2 ρ2 hr
          cases h
          refine PA_imp (pa_cons (F_sound L f sc raw X x ρ _ t gd k1 hf) (A_sound L r sc raw X xs ρ1 _ as2 gd (star_tail hn) k2 hr) (star_cons hn _)) fun σ H Q q => ?_
          obtain ⟨M, F, own, S, q⟩ := q
          refine ⟨M, F, own, S, fun v H1 own1 fp1 P1 => ⟨fp1 ++ M, cutl own1 H1, own1, P1.sl, fun vs H2 own2 ws ts fp2 P2 A2 => ?_⟩⟩
          exact q (v :: vs) H2 own2 (v :: ws) (t :: ts) (fp1 ++ fp2) ((Gst.tr S P1 P2).weak fun z => nomatch z) (.v A2)
        · cases h
      · cases h
  | .ref i r, sc, raw, X, xs, ρ, ρ', ars, gd, hn, ok, h => by
    cases xs with
    | nil => unfold okA at ok; cases ok
    | cons x xs =>
      unfold okA at ok
      obtain ⟨k1, k2⟩ := Bool.and_eq_true_iff.mp ok
      obtain ⟨y, p, rfl, h1, h2, h3, h4⟩ := okVar_of k1
      unfold Ags.eva at h
      split at h
      · rename_i t0 h0
        split at h
        · rename_i as2 ρ2 hr
          cases h
          refine PA_imp (pa_cons (pe_var (by rw [gd.nn]; exact h1) (by rw [gd.scp]; exact h2) h3 h4) (A_sound L r sc raw X xs ρ _ as2 gd (star_tail hn) k2 hr) (star_cons hn _)) fun σ H Q q => ?_
          obtain ⟨M, F, own, S, q⟩ := q
          obtain ⟨v, hv, _⟩ := S.get h0
          exact ⟨v, hv, M, F, own, S, fun vs H2 own2 ws ts fp2 P2 A2 => q (v :: vs) H2 own2 ws ts fp2 P2 (.r hv A2)⟩
        · cases h
      · cases h
theorem F_sound (L : Lk R k c Φ G) : ∀ (f : Fx) (sc raw : Scope) (X : Cx) (x : Expr) (ρ ρ' : Rho) (t : T), Gd R k c.N sc raw X → okF c sc raw f x = true → f.evf Φ G ρ = some (t, ρ') → PE X x (nJ X.K ρ t f.mut ρ')
  | .ex e, sc, raw, X, x, ρ, ρ', t, gd, ok, h => by
    unfold Fx.evf at h
    split at h
    · rename_i d ρ1 he
      cases h
      exact nJ_im (E_sound L e sc raw X x ρ _ _ gd ok he).1
    · cases h
  | .disp es, sc, raw, X, x, ρ, ρ', t, gd, ok, h => by
    unfold okF at ok
    split at ok
    · rename_i xs hx
      obtain ⟨p, rfl, hn⟩ := listN_some hx
      unfold Fx.evf at h
      split at h
      · rename_i ts ρ1 he
        split at h
        · rename_i ds hd
          split at h
          · rename_i hl
            cases h
            exact n_disp (Es_sound L es sc raw X xs ρ _ ts gd ok he) hn hd hl
          · cases h
        · cases h
      · cases h
    · cases ok
  | .rep e n, sc, raw, X, x, ρ, ρ', t, gd, ok, h => by
    unfold okF at ok
    split at ok
    · rename_i a b hx
      obtain ⟨q, p, rfl, hn⟩ := repN_some hx
      obtain ⟨k1, k2⟩ := Bool.and_eq_true_iff.mp ok
      unfold Fx.evf at h
      split at h
      · rename_i d ρ1 he
        split at h
        · rename_i kk ρ2 hk
          split at h
          · rename_i hl
            cases h
            exact n_rep hn (E_sound L e sc raw X a ρ _ _ gd k1 he).1 (E_sound L n sc raw X b ρ1 _ _ gd k2 hk).1 hl.1 hl.2
          · cases h
        · cases h
      · cases h
    · cases ok
  | .list e, sc, raw, X, x, ρ, ρ', t, gd, ok, h => by
    unfold okF at ok
    split at ok
    · rename_i y a hx
      obtain ⟨p, pos, rfl, hn⟩ := callN_some hx
      obtain ⟨k1, k2⟩ := Bool.and_eq_true_iff.mp ok
      rw [L.bi] at k1
      obtain ⟨h1, h2, h3⟩ := gd.bi k1
      unfold Fx.evf at h
      split at h
      · rename_i u ρ1 he
        split at h
        · rename_i ds hd
          split at h
          · rename_i hl
            cases h
            exact n_list gd.calm h2 h1 h3 hn (E_sound L e sc raw X a ρ _ _ gd k2 he).1 hd hl
          · cases h
        · cases h
      · cases h
    · cases ok
  | .comp vs tg it f, sc, raw, X, x, ρ, ρ', t, gd, ok, h => by
    unfold okF at ok
    split at ok
    · rename_i elt tx iter scope hx
      obtain ⟨p, rfl⟩ := compN_some hx
      obtain ⟨k1, ok⟩ := Bool.and_eq_true_iff.mp ok
      obtain ⟨k2, ok⟩ := Bool.and_eq_true_iff.mp ok
      obtain ⟨k3, ok⟩ := Bool.and_eq_true_iff.mp ok
      obtain ⟨k4, ok⟩ := Bool.and_eq_true_iff.mp ok
      obtain ⟨k5, ok⟩ := Bool.and_eq_true_iff.mp ok
      obtain ⟨k6, k7⟩ := Bool.and_eq_true_iff.mp ok
      unfold Fx.evf at h
      split at h
      · rename_i ds ρ1 hi
        split at h
        · rename_i hp
          obtain ⟨hp, hl⟩ := Bool.and_eq_true_iff.mp hp
          split at h
          · rename_i ts ρ5 hc
            cases h
            have hc : compL (turn0 vs tg (f.evf Φ G)) ds (wipeR ρ1 vs) = some (ts, ρ5) := hc
            have hsub : ∀ i ∈ tg.slots, i ∈ vs := fun i hi => by simpa using List.all_eq_true.mp k6 i hi
            have hlc := pe_lc (X := X) (elt := elt) (pos := p) (g := uG X.K [] tg) (tt := tYes) (te := uE X.K f.mut (f.evf Φ G)) gd.calm (by rw [gd.nn]; exact gd.nd) (I_sound L it sc raw X tx iter ρ ρ1 ds gd k1 hi) (blkOk_by (by rw [gd.nn, gd.scp]; exact k4))
              (fun s H C cl fp => ug_of (pins := []) (tg := tg) fun d ρ ρ' hb => tg_sound (gd.blk scope s H C cl fp) tg tx d ρ ρ' k5 hb)
              (fun s H C cl fp => pts_nil)
              (fun s H C cl fp => ue_of (m := f.mut) (ev := f.evf Φ G) fun ρ t ρ' he => F_sound L f (relS scope sc) scope _ elt ρ ρ' t (gd.blk scope s H C cl fp) k7 he) (fun x => fold_of k2 _ x)
            rw [own_of k3] at hlc
            exact PE_imp hlc (lc_reading (step0 hsub) hc hp (of_decide_eq_true hl))
          · cases h
        · cases h
      · cases h
    · cases ok
  | .compIf vs tg it e f, sc, raw, X, x, ρ, ρ', t, gd, ok, h => by
    unfold okF at ok
    split at ok
    · rename_i elt tx iter a scope hx
      obtain ⟨p, rfl⟩ := compN_some hx
      obtain ⟨k1, ok⟩ := Bool.and_eq_true_iff.mp ok
      obtain ⟨k2, ok⟩ := Bool.and_eq_true_iff.mp ok
      obtain ⟨k3, ok⟩ := Bool.and_eq_true_iff.mp ok
      obtain ⟨k4, ok⟩ := Bool.and_eq_true_iff.mp ok
      obtain ⟨k5, ok⟩ := Bool.and_eq_true_iff.mp ok
      obtain ⟨k6, ok⟩ := Bool.and_eq_true_iff.mp ok
      obtain ⟨k8, ok⟩ := Bool.and_eq_true_iff.mp ok
      obtain ⟨k9, k7⟩ := Bool.and_eq_true_iff.mp ok
      unfold Fx.evf at h
      split at h
      · rename_i ds ρ1 hi
        split at h
        · rename_i hp
          obtain ⟨hp, hl⟩ := Bool.and_eq_true_iff.mp hp
          split at h
          · rename_i ts ρ5 hc
            cases h
            have hc : compL (turn1 vs tg (e.ev Φ G) (f.evf Φ G)) ds (wipeR ρ1 vs) = some (ts, ρ5) := hc
            have hsub : ∀ i ∈ tg.slots, i ∈ vs := fun i hi => by simpa using List.all_eq_true.mp k6 i hi
            have hlc := pe_lc (X := X) (elt := elt) (pos := p) (g := uG X.K [] tg) (tt := uT X.K e.mut (e.ev Φ G)) (te := uE X.K f.mut (f.evf Φ G)) gd.calm (by rw [gd.nn]; exact gd.nd) (I_sound L it sc raw X tx iter ρ ρ1 ds gd k1 hi) (blkOk_by (by rw [gd.nn, gd.scp]; exact k4))
              (fun s H C cl fp => ug_of (pins := []) (tg := tg) fun d ρ ρ' hb => tg_sound (gd.blk scope s H C cl fp) tg tx d ρ ρ' k5 hb)
              (fun s H C cl fp => pts_one (ut_of (m := e.mut) (ev := e.ev Φ G) fun ρ b ρ' he => (E_sound L e (relS scope sc) scope _ a ρ ρ' _ (gd.blk scope s H C cl fp) k8 he).2 k9 b rfl))
              (fun s H C cl fp => ue_of (m := f.mut) (ev := f.evf Φ G) fun ρ t ρ' he => F_sound L f (relS scope sc) scope _ elt ρ ρ' t (gd.blk scope s H C cl fp) k7 he) (fun x => fold_of k2 _ x)
            rw [own_of k3] at hlc
            exact PE_imp hlc (lc_reading (step1 hsub) hc hp (of_decide_eq_true hl))
          · cases h
        · cases h
      · cases h
    · cases ok
  | .call g as, sc, raw, X, x, ρ, ρ', t, gd, ok, h => by
    unfold okF at ok
    split at ok
    · rename_i y xs hx
      obtain ⟨p, pos, rfl, hn⟩ := callN_some hx
      obtain ⟨k1, ok⟩ := Bool.and_eq_true_iff.mp ok
      obtain ⟨k2, k3⟩ := Bool.and_eq_true_iff.mp ok
      unfold Fx.evf at h
      split at h
      · rename_i ars ρ1 ha
        split at h
        · rename_i ts ρ3 hv
          split at h
          · rename_i u us hr
            split at h
            · rename_i ρ2 hb
              cases h
              exact call_ok (fun σ H Q q => q) hv hr hb (L.call g y (of_decide_eq_true k1) _ sc raw X gd (of_decide_eq_true k2) xs pos p _ hn (A_sound L as sc raw X xs ρ _ ars gd hn k3 ha))
            · cases h
          · cases h
        · cases h
      · cases h
    · cases ok
theorem I_sound (L : Lk R k c Φ G) : ∀ (it : It) (sc raw : Scope) (X : Cx) (tx x : Expr) (ρ ρ' : Rho) (ds : List D), Gd R k c.N sc raw X → okIt c sc raw it tx x = true → it.evi Φ G ρ = some (ds, ρ') → PI X tx x (iJ X.K ρ ds it.mut ρ')
  | .ex e, sc, raw, X, tx, x, ρ, ρ', ds, gd, ok, h => by
    unfold It.evi at h
    split at h
    · rename_i d ρ1 he
      split at h
      · rename_i ds' hw
        cases h
        exact pi_ex (E_sound L e sc raw X x ρ _ _ gd ok he).1 hw
      · cases h
    · cases h
  | .rng1 a, sc, raw, X, tx, x, ρ, ρ', ds, gd, ok, h => by
    unfold okIt at ok
    split at ok
    · rename_i y p hx
      obtain ⟨q, pos, rfl, hn⟩ := callN_some hx
      obtain ⟨k1, k2⟩ := Bool.and_eq_true_iff.mp ok
      rw [L.bi] at k1
      obtain ⟨rfl, h2, h3⟩ := gd.bi k1
      unfold It.evi at h
      split at h
      · rename_i n ρ1 he
        split at h
        · rename_i ds' hr
          cases h
          have e1 := (E_sound L a sc raw X p ρ _ _ gd k2 he).1
          have := pi_r1 (tg := tx) (p := q) (pos := pos) h2 h3 hn (PEs.cons e1 .nil (fun z => nomatch z)) hr
          rw [Bool.or_false] at this
          exact this
        · cases h
      · cases h
    · cases ok
  | .rng2 a b, sc, raw, X, tx, x, ρ, ρ', ds, gd, ok, h => by
    unfold okIt at ok
    split at ok
    · rename_i y p1 p2 hx
      obtain ⟨q, pos, rfl, hn⟩ := callN_some hx
      obtain ⟨k1, ok⟩ := Bool.and_eq_true_iff.mp ok
      obtain ⟨k2, k3⟩ := Bool.and_eq_true_iff.mp ok
      rw [L.bi] at k1
      obtain ⟨rfl, h2, h3⟩ := gd.bi k1
      unfold It.evi at h
      split at h
      · rename_i n ρ1 he
        split at h
        · rename_i n2 ρ2 he2
          split at h
          · rename_i ds' hr
            cases h
            have e1 := (E_sound L a sc raw X p1 ρ _ _ gd k2 he).1
            have e2 := (E_sound L b sc raw X p2 ρ1 _ _ gd k3 he2).1
            have := pi_r2 (tg := tx) (p := q) (pos := pos) h2 h3 hn (PEs.cons e1 (PEs.cons e2 .nil (fun z => nomatch z)) (fun _ => rfl)) hr
            rw [Bool.or_false] at this
            exact this
          · cases h
        · cases h
      · cases h
    · cases ok
  | .rng3 a b d, sc, raw, X, tx, x, ρ, ρ', ds, gd, ok, h => by
    unfold okIt at ok
    split at ok
    · rename_i y p1 p2 p3 hx
      obtain ⟨q, pos, rfl, hn⟩ := callN_some hx
      obtain ⟨k1, ok⟩ := Bool.and_eq_true_iff.mp ok
      obtain ⟨k2, ok⟩ := Bool.and_eq_true_iff.mp ok
      obtain ⟨k3, k4⟩ := Bool.and_eq_true_iff.mp ok
      rw [L.bi] at k1
      obtain ⟨rfl, h2, h3⟩ := gd.bi k1
      unfold It.evi at h
      split at h
      · rename_i n ρ1 he
        split at h
        · rename_i n2 ρ2 he2
          split at h
          · rename_i n3 ρ3 he3
            split at h
            · rename_i ds' hr
              cases h
              have e1 := (E_sound L a sc raw X p1 ρ _ _ gd k2 he).1
              have e2 := (E_sound L b sc raw X p2 ρ1 _ _ gd k3 he2).1
              have e3 := (E_sound L d sc raw X p3 ρ2 _ _ gd k4 he3).1
              have := pi_r3 (tg := tx) (p := q) (pos := pos) h2 h3 hn (PEs.cons e1 (PEs.cons e2 (PEs.cons e3 .nil (fun z => nomatch z)) (fun _ => rfl)) (fun _ => rfl)) hr
              rw [Bool.or_false] at this
              exact this
            · cases h
          · cases h
        · cases h
      · cases h
    · cases ok
  | .enum a, sc, raw, X, tx, x, ρ, ρ', ds, gd, ok, h => by
    unfold okIt at ok
    split at ok
    · rename_i y p hx
      obtain ⟨q, pos, rfl, hn⟩ := callN_some hx
      obtain ⟨k0, ok⟩ := Bool.and_eq_true_iff.mp ok
      obtain ⟨k1, k2⟩ := Bool.and_eq_true_iff.mp ok
      rw [L.bi] at k1
      obtain ⟨rfl, h2, h3⟩ := gd.bi k1
      obtain ⟨elts, kk, tp, rfl⟩ : ∃ elts kk tp, tx = .Tuple elts kk tp := by
        cases tx <;> first | exact ⟨_, _, _, rfl⟩ | cases k0
      unfold It.evi at h
      split at h
      · rename_i ds' ρ1 he
        cases h
        have e1 := (E_sound L a sc raw X p ρ _ _ gd k2 he).1
        have := pi_en (elts := elts) (kk := kk) (tpos := tp) (p := q) (pos := pos) h2 h3 hn (PEs.cons e1 .nil (fun z => nomatch z))
        rw [Bool.or_false] at this
        exact this
      · cases h
    · cases ok
  | .zip a b, sc, raw, X, tx, x, ρ, ρ', ds, gd, ok, h => by
    unfold okIt at ok
    split at ok
    · rename_i y p1 p2 hx
      obtain ⟨q, pos, rfl, hn⟩ := callN_some hx
      obtain ⟨k0, ok⟩ := Bool.and_eq_true_iff.mp ok
      obtain ⟨k1, ok⟩ := Bool.and_eq_true_iff.mp ok
      obtain ⟨k2, k3⟩ := Bool.and_eq_true_iff.mp ok
      rw [L.bi] at k1
      obtain ⟨rfl, h2, h3⟩ := gd.bi k1
      cases tx with
      | Tuple elts kk tpos =>
        unfold It.evi at h
        split at h
        · rename_i d1 ρ1 he
          split at h
          · rename_i d2 ρ2 he2
            split at h
            · rename_i ds1 es1 g1 g2
              cases h
              have e1 := (E_sound L a sc raw X p1 ρ _ _ gd k2 he).1
              have e2 := (E_sound L b sc raw X p2 ρ1 _ _ gd k3 he2).1
              have := pi_zip2 (p := q) (pos := pos) (tpos := tpos) (elts := elts) (kk := kk) h2 h3 hn (PEs.cons e1 (PEs.cons e2 .nil (fun z => nomatch z)) (fun _ => rfl)) g1 g2
              rw [Bool.or_false] at this
              exact this
            · cases h
          · cases h
        · cases h
      | _ => cases k0
    · cases ok
end
end
end Em

set_option Elab.async false
set_option linter.all false
set_option maxRecDepth 100000
set_option maxHeartbeats 4000000
/-! EmS: rules for statements. -/
namespace Em
open PySem PySem.Spec PyProof.Rows L2

section
variable {K : PySem.W.Frag} {M own fp : List Addr} {F F' H : Hp} {σ : Sg} {ρ : Rho}
/-- the list at a path of a slot is rewritten; what is new in it was among the others' till now -/
theorem Sl.chg2 {i : Nat} {p : List Nat} {t : T} {ts : List T} (S : Sl K (fp ++ M) F' own H σ ρ) (hM : ∀ a ∈ fp, a ∉ M) (fr : Sub F H) (oF : ∀ a, a ∈ own ∨ a ∈ fp → F a = none) (iF : ∀ a ∈ M, ∃ o, F a = some o) (e : ρ[i]? = some (some t)) (hp : t.at p = some (.ls ts)) :
    ∃ a xs f, (∃ v, σ[i]? = some (some v) ∧ vAt H v p = some (.ref a)) ∧ H a = some (.lst xs) ∧ a ∈ own ∧ Rps K (cutl (own ++ (fp ++ M)) H) H xs ts f ∧ f.Nodup ∧ (∀ b ∈ f, b ∉ fp) ∧
      ∀ (xs' : List V) (ts' : List T) (f' : List Addr), Rps K (cutl (own ++ (fp ++ M)) H) H xs' ts' f' → f'.Nodup → (∀ b ∈ f', b ∈ f ∨ b ∈ fp) →
        ∃ own', Sl K M F own' (upd H a (.lst xs')) σ (ρ.set i (some (t.setAt p (.ls ts')))) ∧ (∀ b ∈ own', b ∈ own ∨ b ∈ fp) ∧ Sub (cutl (own ++ (fp ++ M)) H) (cutl (own' ++ M) (upd H a (.lst xs'))) := by
  have hi : i < ρ.length := (List.getElem?_eq_some_iff.mp e).1
  obtain ⟨pre, g, post, ee, d, k1, _⟩ := S.rel.focus hi
  rcases d with ⟨z, _⟩ | ⟨v, u, z, hv, r⟩
  · rw [e] at z; cases z
  · rw [e] at z
    cases z
    obtain ⟨a, xs, pre2, f, post2, q0, q1, q2, q3, q4⟩ := r.focus hp
    have eo : own = (pre ++ pre2) ++ (a :: f) ++ (post2 ++ post) := by rw [ee, q3]; simp
    have nd := S.nod
    rw [eo] at nd
    have ndaf : (a :: f).Nodup := (List.nodup_append.mp (List.nodup_append.mp nd).1).2.1
    obtain ⟨naf, ndf⟩ := List.nodup_cons.mp ndaf
    have aown : a ∈ own := by rw [eo]; simp
    have fown : ∀ b ∈ f, b ∈ own := fun b hb => by rw [eo]; simp [hb]
    have ofp : ∀ b ∈ own, b ∉ fp := fun b hb z => S.notM hb (List.mem_append_left _ z)
    have aout : a ∉ pre ++ pre2 ∧ a ∉ post2 ++ post := by
      obtain ⟨n1, _, n3⟩ := List.nodup_append.mp nd
      obtain ⟨_, _, n6⟩ := List.nodup_append.mp n1
      exact ⟨fun m => n6 a m a List.mem_cons_self rfl, fun m => n3 a (List.mem_append_right _ List.mem_cons_self) a m rfl⟩
    refine ⟨a, xs, f, ⟨v, hv, q0⟩, q1, aown, q2, ndf, fun b hb => ofp b (fown b hb), fun xs' ts' f' hr ndf' hf' => ?_⟩
    have anf : a ∉ f' := fun m => by
      rcases hf' a m with z | z
      · exact naf z
      · exact ofp a aown z
    have hu : ∀ b, b ≠ a → ∀ o, H b = some o → upd H a (.lst xs') b = some o := fun b n o q => by rw [upd_ne n]; exact q
    have sub1 : ∀ b ∈ pre ++ (pre2 ++ (a :: f') ++ post2) ++ post, b ∈ own ∨ b ∈ fp := fun b m => by
      simp only [List.mem_append, List.mem_cons] at m
      rcases m with (m | ((m | (m | m)) | m)) | m
      · exact .inl (by rw [eo]; simp [m])
      · exact .inl (by rw [eo]; simp [m])
      · exact .inl (by rw [eo]; simp [m])
      · exact (hf' b m).imp (fown b) id
      · exact .inl (by rw [eo]; simp [m])
      · exact .inl (by rw [eo]; simp [m])
    have hC0 : Sub (cutl (own ++ (fp ++ M)) H) (cutl (own ++ (fp ++ M)) (upd H a (.lst xs'))) := fun b o q => by
      obtain ⟨e1, e2⟩ := cutl_some q
      rw [cutl_out e2]
      exact hu b (fun z => e2 (by rw [z]; exact List.mem_append_left _ aown)) o e1
    have hC1 : Sub (cutl (own ++ (fp ++ M)) (upd H a (.lst xs'))) (cutl (pre ++ (pre2 ++ (a :: f') ++ post2) ++ post ++ M) (upd H a (.lst xs'))) := cutl_sub fun b m => by
      rcases List.mem_append.mp m with m | m
      · rcases sub1 b m with z | z <;> simp [z]
      · simp [m]
    have hC := hC0.tr hC1
    have keep : ∀ b, (b ∈ pre ∨ b ∈ post) ∨ (b ∈ pre2 ∨ b ∈ post2) → ∀ o, H b = some o → upd H a (.lst xs') b = some o := fun b hb => hu b fun q => by
      subst q
      rcases hb with (y | y) | (y | y)
      · exact aout.1 (by simp [y])
      · exact aout.2 (by simp [y])
      · exact aout.1 (by simp [y])
      · exact aout.2 (by simp [y])
    have r2 := q4 _ (upd H a (.lst xs')) xs' ts' f' hC (fun b hb => keep b (.inr hb)) upd_same (hr.mono hC fun b hb => hu b fun z => anf (by rw [← z]; exact hb))
    have hs : σ.set i (some v) = σ := set_same hv
    have r3 := k1 _ (upd H a (.lst xs')) v (t.setAt p (.ls ts')) _ hC (fun b hb => keep b (.inl hb)) r2
    rw [hs] at r3
    refine ⟨_, ⟨r3, ?_, fun b o z => hu b (fun q => ?_) o (fr b o z), fun b m => oF b (sub1 b m), iF⟩, sub1, hC⟩
    · have e3 : pre ++ (pre2 ++ (a :: f') ++ post2) ++ post = (pre ++ pre2) ++ (a :: f') ++ (post2 ++ post) := by simp
      rw [e3]
      refine nodup_mid nd (List.nodup_cons.mpr ⟨anf, ndf'⟩) fun x hx => ?_
      rcases List.mem_cons.mp hx with z | z
      · exact .inl (by rw [z]; simp)
      · rcases hf' x z with y | y
        · exact .inl (List.mem_cons_of_mem _ y)
        · exact .inr ⟨fun m => ofp x (by rw [eo]; simp only [List.mem_append] at m ⊢; grind) y, fun m => ofp x (by rw [eo]; simp only [List.mem_append] at m ⊢; grind) y⟩
    · have y : F a = none := oF a (.inl aown)
      rw [q, y] at z; cases z
end

/-- how a statement leaves the state -/
structure Sst (K : PySem.W.Frag) (pins : List Nat) (M : List Addr) (F : Hp) (own : List Addr) (H : Hp) (σ : Sg) (ρ : Rho) (H' : Hp) (own' : List Addr) (σ' : Sg) : Prop where
  sl : Sl K M F own' H' σ' ρ
  sub : ∀ a ∈ own', a ∈ own ∨ H a = none
  cl : Sub (cutl (own ++ M) H) (cutl (own' ++ M) H')
  aw : Away (fun j => j ∈ pins) σ σ'
section
variable {K : PySem.W.Frag} {pins : List Nat} {M own own1 own2 : List Addr} {F H H1 H2 : Hp} {σ σ1 σ2 : Sg} {ρ ρ1 ρ2 : Rho} {m : Bool}
theorem Sst.rf (S : Sl K M F own H σ ρ) : Sst K pins M F own H σ ρ H own σ := ⟨S, fun _ h => .inl h, Sub.rf _, Away.rf⟩
theorem Sst.tr (a : Sst K pins M F own H σ ρ1 H1 own1 σ1) (b : Sst K pins M F own1 H1 σ1 ρ2 H2 own2 σ2) : Sst K pins M F own H σ ρ2 H2 own2 σ2 :=
  ⟨b.sl, fun x hx => (b.sub x hx).elim (a.sub x) fun z => back_new a.cl a.sl.frame a.sl.inF z, a.cl.tr b.cl, a.aw.tr b.aw⟩
theorem Pst.sst (P : Pst K M F own H σ m ρ1 H1 own1) : Sst K pins M F own H σ ρ1 H1 own1 σ := ⟨P.sl, P.sub, P.cl, Away.rf⟩
end
/-- what comes behind a statement -/
def kJ (K : PySem.W.Frag) (pins : List Nat) (M : List Addr) (F : Hp) (own : List Addr) (σ : Sg) (H : Hp) (fl : Fl) (ρ : Rho) (D : Ends) : Prop := match fl with
  | .nx => ∀ (H' : Hp) (own' : List Addr) (σ' : Sg), Sst K pins M F own H σ ρ H' own' σ' → D.nx σ' H'
  | .bk => ∀ (H' : Hp) (own' : List Addr) (σ' : Sg), Sst K pins M F own H σ ρ H' own' σ' → D.bk σ' H'
  | .ct => ∀ (H' : Hp) (own' : List Addr) (σ' : Sg), Sst K pins M F own H σ ρ H' own' σ' → D.ct σ' H'
  | .rt t => ∀ (H' : Hp) (own' : List Addr) (σ' : Sg) (v : V) (fp : List Addr), Gst K M F own H σ' true ρ H' own' [v] [t] fp → Away (fun j => j ∈ pins) σ σ' → D.rt v H'
def sJ (K : PySem.W.Frag) (pins : List Nat) (ρ : Rho) (fl : Fl) (ρ' : Rho) : TS := fun D σ H => ∃ (M : List Addr) (F : Hp) (own : List Addr), Sl K M F own H σ ρ ∧ kJ K pins M F own σ H fl ρ' D
/-- a state step ahead -/
theorem kJ.ahead {K : PySem.W.Frag} {pins : List Nat} {M own own1 : List Addr} {F H H1 : Hp} {σ σ1 : Sg} {ρ ρ1 ρ' : Rho} {fl : Fl} {D : Ends} (S : Sl K M F own H σ ρ) (a : Sst K pins M F own H σ ρ1 H1 own1 σ1) (h : kJ K pins M F own σ H fl ρ' D) : kJ K pins M F own1 σ1 H1 fl ρ' D := by
  cases fl with
  | nx => exact fun H' own' σ' b => h H' own' σ' (a.tr b)
  | bk => exact fun H' own' σ' b => h H' own' σ' (a.tr b)
  | ct => exact fun H' own' σ' b => h H' own' σ' (a.tr b)
  | rt t =>
    refine fun H' own' σ' v fp P w => h H' own' σ' v fp ?_ (a.aw.tr w)
    have g : Gst K M F own H σ1 true ρ1 H1 own1 [] [] [] := ⟨a.sl.self, .nil, List.nodup_nil, fun _ h => absurd h List.not_mem_nil, a.sub, a.cl, fun z => (nomatch z), a.sl.frame⟩
    have q := Gst.tr S g (P.selfF a.sl)
    exact q
section
variable {X : Cx} {pins : List Nat} {e a b : Expr} {ρ ρ1 ρ2 ρ3 : Rho} {t u : T} {d : D} {m m1 m2 : Bool} {i : Nat} {x : Str} {p pos : Pos}
theorem binds1 {t : T} (h : bind1 pins i t ρ = some ρ1) : binds pins [i] [t] ρ = some ρ1 := by
  show (match bind1 pins i t ρ with | some ρ1 => binds pins [] [] ρ1 | none => none) = _
  rw [h]; rfl
/-- a store of a group behind its evaluation -/
theorem Gst.sst {K : PySem.W.Frag} {M own own1 fp : List Addr} {F H H1 : Hp} {σ : Sg} {vs : List V} {ts : List T} {is : List Nat} (S : Sl K M F own H σ ρ) (P : Gst K M F own H σ m ρ1 H1 own1 vs ts fp) (h : Em.binds pins is ts ρ1 = some ρ2) :
    ∃ own2, Sst K pins M F own H σ ρ2 H1 own2 (sets σ is vs) ∧ is.length = vs.length := by
  obtain ⟨own2, h1, h2, h3, h4, h5⟩ := P.binds S h
  exact ⟨own2, ⟨h1, h2, h3, h4.mono fun j hj => .inl hj⟩, h5⟩
theorem s_asg (hN : X.N.Nodup) (hi : X.N[i]? = some x) (hx : Loc X.env.scope x) (hf : X.fn x = true ∨ X.env.scope.names.lookup x = some .local) (hs : swapsWith e (some (.Name x p)) pos.line X.env = pure false)
    (he : PE X e (nJ X.K ρ t m ρ1)) (hb : bind1 pins i t ρ1 = some ρ2) : PS X (.Assign [.Name x p] e pos) (sJ X.K pins ρ .nx ρ2) := PS_imp (ps_set hN hi hx he hs hf) fun D σ H q => by
  obtain ⟨M, F, own, S, q⟩ := q
  refine ⟨M, F, own, S, fun v H1 own1 fp P => ?_⟩
  obtain ⟨own2, s, _⟩ := P.sst S (binds1 hb)
  exact q H1 own2 _ s
theorem s_unp {tg : Expr} {g : Tg} (hs : swapsWithSole [tg] e pos.line X.env = pure false) (hw : swappedStores [tg] e X.env = pure none) (h1 : (assignEach [tg] X.env).map (·.2) = [assign tg X.env])
    (he : PE X e (tJ X.K ρ (.im d) m ρ1)) (hg : PG X tg (gJ X.K pins g.slots ρ1 d ρ2)) : PS X (.Assign [tg] e pos) (sJ X.K pins ρ .nx ρ2) := PS_imp (ps_asg he hg hs hw h1) fun D σ H q => by
  obtain ⟨M, F, own, S, q⟩ := q
  refine ⟨M, F, own, S, fun v H1 own1 P V1 => ⟨M, F, own1, P.sl, V1.is, fun σ' own' S' s' a' => ?_⟩⟩
  exact q H1 own' σ' (P.sst.tr ⟨S', fun a h => .inl (s' a h), cutl_sub fun x hx => by
    rcases List.mem_append.mp hx with z | z
    · exact List.mem_append_left _ (s' x z)
    · exact List.mem_append_right _ z, a'.mono fun j hj => .inl hj⟩)
theorem s_ret (he : PE X e (nJ X.K ρ t m ρ1)) : PS X (.Return (some e) pos) (sJ X.K pins ρ (.rt t) ρ1) := PS_imp (ps_ret he) fun D σ H q => by
  obtain ⟨M, F, own, S, q⟩ := q
  exact ⟨M, F, own, S, fun v H1 own1 fp P => q H1 own1 σ v fp (P.weak fun z => nomatch z) Away.rf⟩
theorem s_retN : PS X (.Return none pos) (sJ X.K pins ρ (.rt (.im .non)) ρ) := PS_imp ps_retN fun D σ H q => by
  obtain ⟨M, F, own, S, q⟩ := q
  exact q H own σ .non [] (((Pst.rf S).gst1 .non).weak fun z => nomatch z) Away.rf
theorem s_expr (hs : swapsWith e none pos.line X.env = pure false) (he : PE X e (tJ X.K ρ t m ρ1)) : PS X (.Expr e pos) (sJ X.K pins ρ .nx ρ1) := PS_imp (ps_expr he hs) fun D σ H q => by
  obtain ⟨M, F, own, S, q⟩ := q
  exact ⟨M, F, own, S, fun v H1 own1 P V1 => q H1 own1 σ P.sst⟩
theorem s_pass : PS X (.Pass pos) (sJ X.K pins ρ .nx ρ) := PS_imp ps_pass fun D σ H q => by
  obtain ⟨M, F, own, S, q⟩ := q
  exact q H own σ (Sst.rf S)
theorem s_brk : PS X (.Break pos) (sJ X.K pins ρ .bk ρ) := PS_imp ps_break fun D σ H q => by
  obtain ⟨M, F, own, S, q⟩ := q
  exact q H own σ (Sst.rf S)
theorem s_cont : PS X (.Continue pos) (sJ X.K pins ρ .ct ρ) := PS_imp ps_continue fun D σ H q => by
  obtain ⟨M, F, own, S, q⟩ := q
  exact q H own σ (Sst.rf S)
theorem s_never {st : Stmt} : PS X st (fun _ _ _ => False) := ⟨fun _ _ _ _ _ _ h => h.elim⟩
theorem s_nevers {st : List Stmt} : PSs X st (fun _ _ _ => False) := ⟨fun _ _ _ _ _ _ h => h.elim⟩
theorem s_ite {c : Expr} {xs ys : List Stmt} {k : Bool} {fl : Fl} (hc : PT X c (tJb X.K ρ k m ρ1)) (ha : k = true → PSs X xs (sJ X.K pins ρ1 fl ρ2)) (hb : k = false → PSs X ys (sJ X.K pins ρ1 fl ρ2)) : PS X (.If c xs ys pos) (sJ X.K pins ρ fl ρ2) := by
  cases k with
  | true =>
    refine PS_imp (ps_if hc (ha rfl) s_nevers) fun D σ H q => ?_
    obtain ⟨M, F, own, S, q⟩ := q
    exact ⟨M, F, own, S, fun H1 own1 P => ⟨M, F, own1, P.sl, q.ahead S P.sst⟩⟩
  | false =>
    refine PS_imp (ps_if hc s_nevers (hb rfl)) fun D σ H q => ?_
    obtain ⟨M, F, own, S, q⟩ := q
    exact ⟨M, F, own, S, fun H1 own1 P => ⟨M, F, own1, P.sl, q.ahead S P.sst⟩⟩
theorem ss_nil : PSs X [] (sJ X.K pins ρ .nx ρ) := PSs_imp pss_nil fun D σ H q => by
  obtain ⟨M, F, own, S, q⟩ := q
  exact q H own σ (Sst.rf S)
theorem ss_cons {st : Stmt} {rest : List Stmt} {fl : Fl} (h1 : PS X st (sJ X.K pins ρ .nx ρ1)) (h2 : PSs X rest (sJ X.K pins ρ1 fl ρ2)) : PSs X (st :: rest) (sJ X.K pins ρ fl ρ2) := PSs_imp (pss_cons h1 h2) fun D σ H q => by
  obtain ⟨M, F, own, S, q⟩ := q
  exact ⟨M, F, own, S, fun H1 own1 σ1 P => ⟨M, F, own1, P.sl, q.ahead S P⟩⟩
def Fl.isNx : Fl → Bool
  | .nx => true
  | _ => false
theorem ss_stop {st : Stmt} {rest : List Stmt} {fl : Fl} (h1 : PS X st (sJ X.K pins ρ fl ρ1)) (hf : fl.isNx = false) : PSs X (st :: rest) (sJ X.K pins ρ fl ρ1) := PSs_imp (pss_cons h1 (u := fun _ _ _ => False) s_nevers) fun D σ H q => by
  obtain ⟨M, F, own, S, q⟩ := q
  refine ⟨M, F, own, S, ?_⟩
  cases fl with
  | nx => cases hf
  | bk => exact q
  | ct => exact q
  | rt t => exact q
end

/-! ### loops -/
def uS (K : PySem.W.Frag) (pins : List Nat) (run : Rho → Option (Fl × Rho)) : TS := fun D σ H => ∃ ρ fl ρ', run ρ = some (fl, ρ') ∧ sJ K pins ρ fl ρ' D σ H
def uB (K : PySem.W.Frag) (m : Bool) (ev : Rho → Option (Bool × Rho)) : TT := fun σ H Q => ∃ ρ b ρ', ev ρ = some (b, ρ') ∧ tJb K ρ b m ρ' σ H Q
theorem us_of {X : Cx} {st : List Stmt} {pins : List Nat} {run : Rho → Option (Fl × Rho)} (h : ∀ ρ fl ρ', run ρ = some (fl, ρ') → PSs X st (sJ X.K pins ρ fl ρ')) : PSs X st (uS X.K pins run) := ⟨fun pn s σ H D I q => by
  obtain ⟨ρ, fl, ρ', e1, q⟩ := q
  exact (h ρ fl ρ' e1).run pn s σ H D I q⟩
theorem ub_of {X : Cx} {e : Expr} {m : Bool} {ev : Rho → Option (Bool × Rho)} (h : ∀ ρ b ρ', ev ρ = some (b, ρ') → PT X e (tJb X.K ρ b m ρ')) : PT X e (uB X.K m ev) := ⟨fun pn s σ H Q I q => by
  obtain ⟨ρ, b, ρ', e1, q⟩ := q
  exact (h ρ b ρ' e1).run pn s σ H Q I q⟩
theorem while_reading {K : PySem.W.Frag} {pins : List Nat} {m : Bool} {test : Rho → Option (Bool × Rho)} {body : Rho → Option (Fl × Rho)} {n : Nat} {ρ ρ' : Rho} {fl : Fl} (hw : whileL test body n ρ = some (fl, ρ')) (D : Ends) (σ : Sg) (H : Hp) (q : sJ K pins ρ fl ρ' D σ H) :
    tWhile (uB K m test) (uS K pins body) D σ H := by
  obtain ⟨M, F, own, S, q⟩ := q
  refine ⟨fun j σ1 H1 => ∃ ρi own1, Sst K pins M F own H σ ρi H1 own1 σ1 ∧ whileL test body j ρi = some (fl, ρ'), ⟨n, ρ, own, Sst.rf S, hw⟩, ?_⟩
  rintro j σ1 H1 ⟨ρi, own1, P, hj⟩
  cases j with
  | zero => cases hj
  | succ j =>
    unfold whileL at hj
    split at hj
    · rename_i ρj ht
      refine ⟨ρi, true, ρj, ht, M, F, own1, P.sl, fun H2 own2 P2 => ?_⟩
      show ∃ N : Sg → Hp → Prop, (∀ σ' H', N σ' H' → ∃ m', m' < j + 1 ∧ ∃ ρi own1, Sst K pins M F own H σ ρi H' own1 σ' ∧ whileL test body m' ρi = some (fl, ρ')) ∧ uS K pins body { D with nx := N, ct := N, bk := D.nx } σ1 H2
      refine ⟨fun σ3 H3 => ∃ ρi own1, Sst K pins M F own H σ ρi H3 own1 σ3 ∧ whileL test body j ρi = some (fl, ρ'), fun σ' H' h => ⟨j, Nat.lt_succ_self j, h⟩, ?_⟩
      have P3 := P.tr P2.sst
      split at hj
      · rename_i ρk hb
        exact ⟨ρj, .nx, ρk, hb, M, F, own2, P2.sl, fun H4 own4 σ4 P4 => ⟨ρk, own4, P3.tr P4, hj⟩⟩
      · rename_i ρk hb
        exact ⟨ρj, .ct, ρk, hb, M, F, own2, P2.sl, fun H4 own4 σ4 P4 => ⟨ρk, own4, P3.tr P4, hj⟩⟩
      · rename_i ρk hb
        cases hj
        exact ⟨ρj, .bk, _, hb, M, F, own2, P2.sl, fun H4 own4 σ4 P4 => q H4 own4 σ4 (P3.tr P4)⟩
      · rename_i r ρk hb
        cases hj
        exact ⟨ρj, .rt r, _, hb, M, F, own2, P2.sl, q.ahead S P3⟩
      · cases hj
    · rename_i ρj ht
      cases hj
      refine ⟨ρi, false, _, ht, M, F, own1, P.sl, fun H2 own2 P2 => ?_⟩
      show D.nx σ1 H2
      exact q H2 own2 σ1 (P.tr P2.sst)
    · cases hj
def turnS (pins : List Nat) (tg : Tg) (body : Rho → Option (Fl × Rho)) (d : D) (ρ : Rho) : Option (Fl × Rho) := match tg.bind pins d ρ with
  | some ρ2 => body ρ2
  | none => none
theorem for_reading {K : PySem.W.Frag} {pins : List Nat} {m : Bool} {tg : Tg} {body : Rho → Option (Fl × Rho)} {ds : List D} {ρ ρ1 ρ' : Rho} {fl : Fl} (hw : forL (turnS pins tg body) ds ρ1 = some (fl, ρ')) (D : Ends) (σ : Sg) (H : Hp) (q : sJ K pins ρ fl ρ' D σ H) :
    tFor (iJ K ρ ds m ρ1) (uG K pins tg) (uS K pins body) D σ H := by
  obtain ⟨M, F, own, S, q⟩ := q
  refine ⟨M, F, own, S, fun J H1 own1 P wd => ?_⟩
  obtain ⟨G, Y, w, wG, wY⟩ := wd
  have S1 := P.sl
  have q1 := q.ahead S P.sst
  refine for_it w (fun i σ2 H2 => ∃ ρi own2, Sst K pins M F own1 H1 σ ρi H2 own2 σ2 ∧ forL (turnS pins tg body) (ds.drop i) ρi = some (fl, ρ')) ⟨ρ1, own1, Sst.rf S1, hw⟩ ?_ ?_ ?_
  · rintro i σ2 H2 _ ⟨ρi, own2, A, _⟩
    exact wG H2 (A.cl.tr cut_sub)
  · rintro i x σ2 H2 H3 hi ⟨ρi, own2, A, hf⟩ y
    obtain ⟨ext, val⟩ := wY i H2 x H3 hi (A.cl.tr cut_sub) y
    obtain ⟨d, e1, e2⟩ := val (own2 ++ M) A.sl.dom A.cl
    have hdrop : ds.drop i = d :: ds.drop (i + 1) := by
      obtain ⟨hlt, e⟩ := List.getElem?_eq_some_iff.mp e1
      rw [List.drop_eq_getElem_cons hlt, e]
    rw [hdrop] at hf
    have B : Sst K pins M F own1 H1 σ ρi H3 own2 σ2 := ⟨A.sl.grow ext, A.sub, A.cl.tr (cut_ext ext), A.aw⟩
    have step : ∀ fl1 ρ2, turnS pins tg body d ρi = some (fl1, ρ2) → (∀ own3 σ3 ρb, Sst K pins M F own1 H1 σ ρb H3 own3 σ3 → kJ K pins M F own3 σ3 H3 fl1 ρ2 { D with nx := fun σ2 H2 => ∃ ρi own2, Sst K pins M F own1 H1 σ ρi H2 own2 σ2 ∧ forL (turnS pins tg body) (ds.drop (i + 1)) ρi = some (fl, ρ'), ct := fun σ2 H2 => ∃ ρi own2, Sst K pins M F own1 H1 σ ρi H2 own2 σ2 ∧ forL (turnS pins tg body) (ds.drop (i + 1)) ρi = some (fl, ρ'), bk := D.nx }) →
        uG K pins tg x σ2 H3 fun σ3 H3 => uS K pins body { D with nx := fun σ2 H2 => ∃ ρi own2, Sst K pins M F own1 H1 σ ρi H2 own2 σ2 ∧ forL (turnS pins tg body) (ds.drop (i + 1)) ρi = some (fl, ρ'), ct := fun σ2 H2 => ∃ ρi own2, Sst K pins M F own1 H1 σ ρi H2 own2 σ2 ∧ forL (turnS pins tg body) (ds.drop (i + 1)) ρi = some (fl, ρ'), bk := D.nx } σ3 H3 := by
      intro fl1 ρ2 ht k
      unfold turnS at ht
      split at ht
      · rename_i ρb hb
        refine ⟨ρi, d, ρb, hb, M, F, own2, B.sl, e2, fun σ3 own3 S3 s3 a3 => ?_⟩
        have C : Sst K pins M F own1 H1 σ ρb H3 own3 σ3 := B.tr ⟨S3, fun a h => .inl (s3 a h), cutl_sub fun x hx => by
          rcases List.mem_append.mp hx with z | z
          · exact List.mem_append_left _ (s3 x z)
          · exact List.mem_append_right _ z, a3.mono fun j hj => .inl hj⟩
        exact ⟨ρb, fl1, ρ2, ht, M, F, own3, S3, k own3 σ3 ρb C⟩
      · cases ht
    unfold forL at hf
    split at hf
    · rename_i ρ2 ht
      exact step .nx ρ2 ht fun own3 σ3 ρb C H4 own4 σ4 P4 => ⟨ρ2, own4, C.tr P4, hf⟩
    · rename_i ρ2 ht
      exact step .ct ρ2 ht fun own3 σ3 ρb C H4 own4 σ4 P4 => ⟨ρ2, own4, C.tr P4, hf⟩
    · rename_i ρ2 ht
      cases hf
      exact step .bk _ ht fun own3 σ3 ρb C H4 own4 σ4 P4 => q1 H4 own4 σ4 (C.tr P4)
    · rename_i r ρ2 ht
      cases hf
      exact step (.rt r) _ ht fun own3 σ3 ρb C => (show kJ K pins M F own3 σ3 H3 (.rt r) ρ' D from q1.ahead S1 C)
    · cases hf
  · rintro σ2 H2 ⟨ρi, own2, A, hf⟩
    rw [List.drop_length] at hf
    cases hf
    exact q1 H2 own2 σ2 A
end Em

set_option Elab.async false
set_option linter.all false
set_option maxRecDepth 100000
set_option maxHeartbeats 4000000
namespace PySem.EmX
open PySem PySem.Spec PySem.AutoSeq1 PySem.MeetsSeq PySem.MeetsSeq2 PySem.MeetsSeq3
theorem list_extend_tupA (l : Addr) (items : Array Value) (n : Nat) (b : Addr) (items2 : Array Value) (n2 : Nat) (dd : Option Addr) (sl : Array (Option Value)) (hs0 : ¬(!items.isEmpty && Builtin.List.listTooLong (items.size + items2.size)) = true) (hs1 : items.size ≤ sizeLine) (hs2 : items.size + items2.size ≤ sizeLine + 1) :
    Meets (Builtin.«list.extend» ⟨[.ref l, .ref b], []⟩) (fun _ R s => s.heap.get? l = some { cls := .type "list", dict := none, data := .seq items n, slots := #[] } ∧ s.heap.get? b = some { cls := .type "tuple", dict := dd, data := .seq items2 n2, slots := sl } ∧ R (.ok (.ret Value.none)) { s with heap := s.heap.update l (Obj.mapSeq fun x => x ++ items2), toks := s.toks }) :=
  .of_wp fun prog w A R s h => by
    obtain ⟨hp, g, d, tk, os⟩ := s; obtain ⟨hl, hb, h⟩ := h; have f1 := idx_int; have f2 := sub_tuple_tuple; have f3 := sub_list_list; have f4 := sub_tuple_list; have f5 := sub_list_tuple;
    have hz' : (items ++ items2).size ≤ sizeLine + 1 := by rw [Array.size_append]; exact hs2
    wp_walk using (wpAny_updateSeq hl rfl (hz := hs1) (_hz' := hz')), wpAny_loadPart' hl, wpAny_loadPart' hb; exact ⟨_, rfl, h⟩
end PySem.EmX
namespace Em
open PySem PySem.Spec PyProof.Rows L2
def rExtA (K : PySem.W.Frag) : V → List V → Hp → VK → Prop := fun x vs H Q => ∃ l b xs zs, x = .ref l ∧ vs = [.ref b] ∧ H l = some (.lst xs) ∧ (Rd H b (.lst zs) ∨ SqT K H b zs) ∧ xs.length + zs.length ≤ sizeLine ∧ Q .non (upd H l (.lst (xs ++ zs)))
theorem mt_extA {X : Cx} : MtM X "list.extend" (rExtA X.K) := by
  intro pins s σ H x vs v us Q I rx rv h
  obtain ⟨l, b, xs, zs, rfl, rfl, hH, hB, hz, q⟩ := h
  cases rx
  obtain ⟨u, rfl, ru⟩ := rv.one
  cases ru
  obtain ⟨z, its, n, r, hl, e⟩ := I.lstM hH
  rcases hB with hB | hB
  · obtain ⟨its2, n2, r2, e2⟩ : ∃ (its2 : List Value) (n2 : Nat), Vals zs its2 ∧ s.heap.get? b = some { cls := .type "list", data := .seq its2.toArray n2 } := by
      rcases hB with hB | ⟨o, hB⟩
      · obtain ⟨_, its2, n2, r2, e2⟩ := I.hok b _ hB
        exact ⟨its2, n2, r2, e2⟩
      · obtain ⟨_, _, its2, n2, r2, e2⟩ := I.hok b _ hB
        exact ⟨its2, n2, r2, e2⟩
    have hl2 := r2.length
    have hsz : its.toArray.size + its2.toArray.size ≤ sizeLine := by rw [List.size_toArray, List.size_toArray]; omega
    have hlong : ¬ (!its.toArray.isEmpty && Builtin.List.listTooLong (its.toArray.size + its2.toArray.size)) = true := by
      rw [notLongL hsz, Bool.and_false]
      exact Bool.false_ne_true
    refine call_meets PySem.F.slot_list_extend ⟨_, e, rfl⟩ PySem.F.entry_list_extend (PySem.F.args_list_extend_2 _ _)
      (AutoSeq1.list_extend_list_list_0 l its.toArray n b its2.toArray n2 hlong (by rw [List.size_toArray]; omega) (by omega)) ⟨e, e2, ?_⟩
    refine ⟨.non, _, I.lset (its' := its ++ its2) hH e (by simp) (r.append r2) ?_, rfl, q⟩
    rw [List.length_append]
    exact hz
  · obtain ⟨its2, r2, ⟨o, e2, hc, n2, hd⟩, _⟩ := I.tuple hB
    have hl2 := r2.length
    have hsz : its.toArray.size + its2.toArray.size ≤ sizeLine := by rw [List.size_toArray, List.size_toArray]; omega
    have hlong : ¬ (!its.toArray.isEmpty && Builtin.List.listTooLong (its.toArray.size + its2.toArray.size)) = true := by
      rw [notLongL hsz, Bool.and_false]
      exact Bool.false_ne_true
    obtain ⟨cls, dd, data, sl⟩ := o
    cases hc
    cases hd
    refine call_meets PySem.F.slot_list_extend ⟨_, e, rfl⟩ PySem.F.entry_list_extend (PySem.F.args_list_extend_2 _ _)
      (PySem.EmX.list_extend_tupA l its.toArray n b its2.toArray n2 dd sl hlong (by rw [List.size_toArray]; omega) (by omega)) ⟨e, e2, ?_⟩
    refine ⟨.non, _, I.lset (its' := its ++ its2) hH e (by simp) (r.append r2) ?_, rfl, q⟩
    rw [List.length_append]
    exact hz

/-! ### the list at a path -/
theorem isLs_some {i : Nat} {q : List Nat} {ρ : Rho} (h : isLs i q ρ = true) : ∃ t ts, ρ[i]? = some (some t) ∧ t.at q = some (.ls ts) := by
  unfold isLs at h
  split at h
  · rename_i t ht
    split at h
    · rename_i ts hts
      exact ⟨t, ts, ht, hts⟩
    · cases h
  · cases h
theorem chg_some {i : Nat} {q : List Nat} {f : List T → Option (List T)} {ρ ρ' : Rho} (h : chg i q f ρ = some ρ') : ∃ t ts us, ρ[i]? = some (some t) ∧ t.at q = some (.ls ts) ∧ f ts = some us ∧ ρ' = ρ.set i (some (t.setAt q (.ls us))) := by
  unfold chg at h
  split at h
  · rename_i t ht
    split at h
    · rename_i ts hts
      split at h
      · rename_i us hf
        cases h
        exact ⟨t, ts, us, ht, hts, hf, rfl⟩
      · cases h
    · cases h
  · cases h
theorem natsOf_nil {q : List Nat} (h : natsOf [] = some q) : q = [] := by cases h; rfl
theorem natsOf_one {t : T} {q : List Nat} (h : natsOf [t] = some q) : ∃ k : Int, t = .im (.int k) ∧ 0 ≤ k ∧ q = [k.toNat] := by
  unfold natsOf at h
  split at h
  · rename_i e; cases e
  · rename_i i ts e
    cases e
    split at h
    · rename_i ns hn
      cases hn
      split at h
      · rename_i hi
        cases h
        exact ⟨_, rfl, hi, rfl⟩
      · cases h
    · cases h
  · cases h
theorem vAt_sub {H H' : Hp} (e : Sub H H') : ∀ {q : List Nat} {v w : V}, vAt H v q = some w → vAt H' v q = some w
  | [], v, w, h => h
  | j :: q, v, w, h => by
    cases v with
    | ref a =>
      unfold vAt at h ⊢
      split at h
      · rename_i xs hx
        rw [e a _ hx]
        simp only
        split at h
        · rename_i z hz

          exact vAt_sub e h
        · cases h
      · cases h
    | _ => cases h
/-- the object at a path of slot i -/
def oJ (K : PySem.W.Frag) (ρ : Rho) (i : Nat) (q : List Nat) (m : Bool) (ρ' : Rho) : TE := fun σ H Q => ∃ (M : List Addr) (F : Hp) (own : List Addr), Sl K M F own H σ ρ ∧
  ∀ (a : Addr) (xs : List V) (H' : Hp) (own' : List Addr), Pst K M F own H σ m ρ' H' own' → (∃ v, σ[i]? = some (some v) ∧ vAt H' v q = some (.ref a)) → H' a = some (.lst xs) → Q (.ref a) H'
section
variable {X : Cx} {pins : List Nat} {e a b o : Expr} {ρ ρ1 ρ2 ρ3 : Rho} {t u : T} {d : D} {m m1 m2 : Bool} {i : Nat} {x : Str} {p pos ap : Pos} {q : List Nat}
theorem o_nil (hi : X.N[i]? = some x) (hv : Vis X.env.scope x) (h1 : (x == ("__debug__" : Str)) = false) (h2 : (x == ("__classdict__" : Str)) = false) (hl : isLs i [] ρ = true) : PE X (.Name x p) (oJ X.K ρ i [] false ρ) := PE_imp (pe_var hi hv h1 h2) fun σ H Q q => by
  obtain ⟨M, F, own, S, q⟩ := q
  obtain ⟨t, ts, e1, e2⟩ := isLs_some hl
  obtain ⟨a, xs, f, ⟨v, hv, h0⟩, h3, _⟩ := S.list e1 e2
  cases h0
  exact ⟨_, hv, q a xs H own (Pst.rf S) ⟨_, hv, rfl⟩ h3⟩
theorem o_one {k : Int} (hi : X.N[i]? = some x) (hv : Vis X.env.scope x) (h1 : (x == ("__debug__" : Str)) = false) (h2 : (x == ("__classdict__" : Str)) = false) (hs : notSl b = true) (hb : PE X b (tJ X.K ρ (.im (.int k)) m ρ1)) (h0 : 0 ≤ k) (hr : ∃ t, ρ[i]? = some (some t)) (hl : isLs i [k.toNat] ρ1 = true) :
    PE X (.Subscript (.Name x p) b pos) (oJ X.K ρ i [k.toNat] m ρ1) := PE_imp (pe_ix ix_seq (pe_var hi hv h1 h2) hb (plain_of hs)) fun σ H Q q => by
  obtain ⟨M, F, own, S, q⟩ := q
  obtain ⟨t0, hr⟩ := hr
  obtain ⟨v0, hv0, _⟩ := S.get hr
  refine ⟨v0, hv0, M, F, own, S, fun z H1 own1 P V1 => ?_⟩
  obtain ⟨t, ts, e1, e2⟩ := isLs_some hl
  obtain ⟨a, xs, f, ⟨v, hv', h3⟩, h4, _⟩ := P.sl.list e1 e2
  rw [hv0] at hv'
  cases hv'
  cases v0 with
  | ref a0 =>
    have h5 := h3
    unfold vAt at h3
    split at h3
    · rename_i ys hy
      split at h3
      · rename_i w hw
        cases h3
        obtain ⟨hlt, _⟩ := List.getElem?_eq_some_iff.mp hw
        refine .inl ⟨a0, ys, k, .ref a, rfl, V1.is.int_v, .inl (.inl hy), ?_, q a xs H1 own1 P ⟨_, hv0, h5⟩ h4⟩
        unfold L2.atI ixN
        rw [if_pos h0, if_pos (by omega)]
        exact hw
      · cases h3
    · cases h3
  | _ => cases h3
/-- the change of the list at the path, behind all evaluations -/
theorem chg_go {K : PySem.W.Frag} {M own own1 fp : List Addr} {F H H1 : Hp} {σ : Sg} {us : List V} {ts0 : List T} {ts : List T} (S : Sl K M F own H σ ρ) (P : Gst K M F own H σ m ρ1 H1 own1 us ts0 fp) (e : ρ1[i]? = some (some t)) (hp : t.at q = some (.ls ts)) (a : Addr) (ha : ∃ v, σ[i]? = some (some v) ∧ vAt H1 v q = some (.ref a)) :
    ∃ xs f, H1 a = some (.lst xs) ∧ Rps K (cutl (own1 ++ (fp ++ M)) H1) H1 xs ts f ∧ f.Nodup ∧ (∀ b ∈ f, b ∉ fp) ∧
      ∀ (xs' : List V) (ts' : List T) (f' : List Addr), Rps K (cutl (own1 ++ (fp ++ M)) H1) H1 xs' ts' f' → f'.Nodup → (∀ b ∈ f', b ∈ f ∨ b ∈ fp) → ∃ own', Sst K pins M F own H σ (ρ1.set i (some (t.setAt q (.ls ts')))) (upd H1 a (.lst xs')) own' σ := by
  obtain ⟨a', xs, f, ⟨v', hv', h0⟩, h1, h2, h3, h4, h5, k⟩ := P.sl.chg2 (F := F) (fun a ha => P.notM S ha) P.fr (fun a ha => by
    rcases ha with ha | ha
    · exact P.ownF0 S ha
    · exact P.newF S ha) S.inF e hp
  obtain ⟨v, hv, h6⟩ := ha
  rw [hv] at hv'
  cases hv'
  rw [h6] at h0
  cases h0
  refine ⟨xs, f, h1, h3, h4, h5, fun xs' ts' f' hr nd hf => ?_⟩
  obtain ⟨own', s1, s2, s3⟩ := k xs' ts' f' hr nd hf
  exact ⟨own', s1, fun b hb => (s2 b hb).elim (P.sub b) (P.new b), P.cl.tr s3, Away.rf⟩
theorem s_app {f' : Fx} (ho : PE X o (oJ X.K ρ i q m1 ρ1)) (hb0 : noSuper o = true) (hl : (ap.endLine == pos.line) = true) (hn : noStar [a] = true) (ha : PE X a (nJ X.K ρ1 u m2 ρ2)) (hm : q = [] ∨ m2 = false) {ρ' : Rho}
    (hc : chg i q (fun ts => if ts.length < LIM then some (ts ++ [u]) else none) ρ2 = some ρ') : PS X (.Expr (.Call (.Attribute o "append" ap) [a] [] pos) p) (sJ X.K pins ρ .nx ρ') :=
  PS_imp (ps_expr (pe_bm PySem.F.plainAttrs_list PySem.F.slot_list_append PySem.F.type_list_append mt_append ho (pa_cons ha pa_nil (star_cons hn _)) (attr_plain hb0 _ _) (few1 hn) hl (star_cons hn _) (back_none rfl))) fun D σ H q0 => by
    obtain ⟨M, F, own, S, q0⟩ := q0
    refine ⟨M, F, own, S, fun a0 xs0 H1 own1 P1 hv hx => ⟨mt_ty hx, M, F, own1, P1.sl, fun y H2 own2 fp P2 => ?_⟩⟩
    obtain ⟨t, ts, us, e1, e2, e3, rfl⟩ := chg_some hc
    split at e3
    · rename_i hL
      cases e3
      have G := Gst.tr S P1.gst (P2.selfF P1.sl)
      obtain ⟨xs, f, h1, h2, h3, h4, k⟩ := chg_go (pins := pins) (q := q) S G e1 e2 a0 (by
        obtain ⟨v, hv1, hv2⟩ := hv
        refine ⟨v, hv1, ?_⟩
        rcases hm with rfl | rfl
        · exact hv2
        · exact vAt_sub (P2.ext rfl) hv2)
      obtain ⟨own', st⟩ := k (xs ++ [y]) (ts ++ [u]) (f ++ fp) (h2.app (by simpa using G.rp)) (by
        rw [List.nodup_append]
        exact ⟨h3, P2.nd, fun x hx y hy z => h4 x hx (by rw [z]; exact hy)⟩) (fun b hb => by simpa using List.mem_append.mp hb)
      refine ⟨a0, xs, y, rfl, rfl, h1, ?_, q0 _ own' σ st⟩
      rw [h2.len]
      exact Nat.lt_of_lt_of_le hL lim_le
    · cases e3
theorem s_ext {ds : List D} (ho : PE X o (oJ X.K ρ i q m1 ρ1)) (hb0 : noSuper o = true) (hl : (ap.endLine == pos.line) = true) (hn : noStar [a] = true) (ha : PE X a (tJ X.K ρ1 (.im d) m2 ρ2)) (hd : (T.im d).seq? = some ds) (hm : q = [] ∨ m2 = false) {ρ' : Rho}
    (hc : chg i q (fun ts => if ts.length + ds.length ≤ LIM then some (ts ++ ds.map .im) else none) ρ2 = some ρ') : PS X (.Expr (.Call (.Attribute o "extend" ap) [a] [] pos) p) (sJ X.K pins ρ .nx ρ') :=
  PS_imp (ps_expr (pe_bm PySem.F.plainAttrs_list PySem.F.slot_list_extend PySem.F.type_list_extend mt_extA ho (pa_cons ha pa_nil (star_cons hn _)) (attr_plain hb0 _ _) (few1 hn) hl (star_cons hn _) (back_none rfl))) fun D σ H q0 => by
    obtain ⟨M, F, own, S, q0⟩ := q0
    refine ⟨M, F, own, S, fun a0 xs0 H1 own1 P1 hv hx => ⟨mt_ty hx, M, F, own1, P1.sl, fun y H2 own2 P2 V2 => ?_⟩⟩
    obtain ⟨t, ts, us, e1, e2, e3, rfl⟩ := chg_some hc
    split at e3
    · rename_i hL
      cases e3
      have G := (P1.tr P2).gst
      obtain ⟨xs, f, h1, h2, h3, h4, k⟩ := chg_go (pins := pins) (q := q) S G e1 e2 a0 (by
        obtain ⟨v, hv1, hv2⟩ := hv
        refine ⟨v, hv1, ?_⟩
        rcases hm with rfl | rfl
        · exact hv2
        · exact vAt_sub (P2.ext rfl) hv2)
      obtain ⟨b, zs, rfl, hb, iz⟩ : ∃ b zs, y = .ref b ∧ (Rd H2 b (.lst zs) ∨ SqT X.K H2 b zs) ∧ Iss X.K (cutl (own2 ++ M) H2) zs ds := by
        cases d with
        | lst es =>
          cases hd
          obtain ⟨b, zs, rfl, r1, i1⟩ := V2.is.lst_v
          exact ⟨b, zs, rfl, .inl (rd_sub cut_sub r1), i1⟩
        | tup es =>
          cases hd
          obtain ⟨b, zs, rfl, r1, i1⟩ := V2.is.tup_v
          exact ⟨b, zs, rfl, .inr (seqT_sub cut_sub r1), i1⟩
        | _ => cases hd
      obtain ⟨own', st⟩ := k (xs ++ zs) (ts ++ ds.map .im) f (by simpa using h2.app (Rps.ims iz)) h3 (fun b hb => .inl hb)
      refine ⟨a0, b, xs, zs, rfl, rfl, h1, hb, ?_, q0 _ own' σ st⟩
      rw [h2.len, iz.len]
      exact le_line hL
    · cases e3
theorem s_set {k : Int} {m3 : Bool} {tp : Pos} (he : PE X e (tJ X.K ρ (.im d) m1 ρ1)) (ho : PE X o (oJ X.K ρ1 i q m2 ρ2)) (hk : PE X a (tJ X.K ρ2 (.im (.int k)) m3 ρ3)) (hm : q = [] ∨ m3 = false) (hs : swapsWithSole [.Subscript o a tp] e pos.line X.env = pure false) (hw : swappedStores [.Subscript o a tp] e X.env = pure none)
    (ha : ∀ v, assign (.Subscript o a tp) X.env v = (do
      let ov ← holding [v] (eval o X.env)
      let iv ← holding [v, ov] (eval a X.env)
      standAt tp
      holding [v, ov, iv] (setItem ov iv v)
      release [v, ov, iv] [])) {ρ' : Rho}
    (hc : chg i q (fun ts => match ixN ts.length k with | some m => some (ts.set m (.im d)) | none => none) ρ3 = some ρ') : PS X (.Assign [.Subscript o a tp] e pos) (sJ X.K pins ρ .nx ρ') :=
  PS_imp (ps_asg he (pg_sub ho hk set_list ha) hs hw) fun D σ H q0 => by
    obtain ⟨M, F, own, S, q0⟩ := q0
    refine ⟨M, F, own, S, fun w H1 own1 P1 V1 => ⟨M, F, own1, P1.sl, fun a0 xs0 H2 own2 P2 hv hx => ⟨M, F, own2, P2.sl, fun z H3 own3 P3 V3 => ?_⟩⟩⟩
    obtain ⟨t, ts, us, e1, e2, e3, rfl⟩ := chg_some hc
    split at e3
    · rename_i j hj
      cases e3
      have P23 := P2.tr P3
      have G := (P1.tr P23).gst
      obtain ⟨xs, f, h1, h2, h3, h4, kk⟩ := chg_go (pins := pins) (q := q) S G e1 e2 a0 (by
        obtain ⟨v, hv1, hv2⟩ := hv
        refine ⟨v, hv1, ?_⟩
        rcases hm with rfl | rfl
        · exact hv2
        · exact vAt_sub (P3.ext rfl) hv2)
      have hw' : Is X.K (cutl (own3 ++ M) H3) w d := V1.is.mono P23.cl
      obtain ⟨t1, ht1⟩ : ∃ t1, ts[j]? = some t1 := by
        obtain ⟨_, hlt, _⟩ := ixN_seq hj
        exact ⟨ts[j], by rw [List.getElem?_eq_getElem hlt]⟩
      obtain ⟨v1, pre, g, post, g1, g2, g3, g4⟩ := h2.focus ht1
      have r' := g4 _ H3 w (.im d) [] (Sub.rf _) (fun _ _ _ q => q) (.im hw')
      obtain ⟨own', st⟩ := kk (xs.set j w) (ts.set j (.im d)) (pre ++ [] ++ post) r' (by
        rw [g3] at h3
        exact nodup_mid h3 List.nodup_nil fun x hx => absurd hx List.not_mem_nil) (fun b hb => .inl (by
        rw [g3]
        simp only [List.append_nil, List.mem_append] at hb ⊢
        grind))
      exact ⟨a0, xs, k, j, rfl, V3.is.int_v, h1, by rw [h2.len]; exact hj, q0 _ own' σ st⟩
    · cases e3
end
end Em

set_option Elab.async false
set_option linter.all false
set_option maxRecDepth 100000
set_option maxHeartbeats 8000000
/-! EmU: which text a statement of the small language stands for; the text does what it does. -/
namespace Em
open PySem PySem.Spec PyProof.Rows L2

def pureOf {α : Type} : Sem α → Option α
  | .pure a => some a
  | _ => none
theorem pure_of {α : Type} {x : Sem α} {a : α} (h : pureOf x = some a) : x = pure a := by
  cases x <;> first | (cases h; rfl) | (simp [pureOf] at h)
def env0 (sc : Scope) : Env := { scope := sc, locals := 0, globals := 0, cells := [] }
theorem sw_env (v : Expr) (t : Option Expr) (l : Nat) (env : Env) : swapsWith v t l env = swapsWith v t l (env0 env.scope) := rfl
theorem ss_env (ts : List Expr) (v : Expr) (l : Nat) (env : Env) : swapsWithSole ts v l env = swapsWithSole ts v l (env0 env.scope) := by
  match ts with
  | [] => rfl
  | [t] => rfl
  | _ :: _ :: _ => rfl
theorem st_env (ts : List Expr) (v : Expr) (env : Env) : swappedStores ts v env = swappedStores ts v (env0 env.scope) := rfl
def swB (sc : Scope) (v : Expr) (t : Option Expr) (l : Nat) (b : Bool) : Bool := decide (pureOf (swapsWith v t l (env0 sc)) = some b)
def soleB (sc : Scope) (ts : List Expr) (v : Expr) (l : Nat) : Bool := decide (pureOf (swapsWithSole ts v l (env0 sc)) = some false)
def storesB (sc : Scope) (ts : List Expr) (v : Expr) (r : Option (List Str)) : Bool := decide (pureOf (swappedStores ts v (env0 sc)) = some r)
theorem swB_of {sc : Scope} {v : Expr} {t : Option Expr} {l : Nat} {b : Bool} {env : Env} (h : swB sc v t l b = true) (e : env.scope = sc) : swapsWith v t l env = pure b := by
  rw [sw_env, e]; exact pure_of (of_decide_eq_true h)
theorem soleB_of {sc : Scope} {ts : List Expr} {v : Expr} {l : Nat} {env : Env} (h : soleB sc ts v l = true) (e : env.scope = sc) : swapsWithSole ts v l env = pure false := by
  rw [ss_env, e]; exact pure_of (of_decide_eq_true h)
theorem storesB_of {sc : Scope} {ts : List Expr} {v : Expr} {r : Option (List Str)} {env : Env} (h : storesB sc ts v r = true) (e : env.scope = sc) : swappedStores ts v env = pure r := by
  rw [st_env, e]; exact pure_of (of_decide_eq_true h)

/-! ### taking statements apart -/
def asgN : Stmt → Option (Expr × Expr × Pos)
  | .Assign [t] e pos => some (t, e, pos)
  | _ => none
def nameP : Expr → Option (Str × Pos)
  | .Name x p => some (x, p)
  | _ => none
def tupN : Expr → Option (List Expr)
  | .Tuple es _ _ => if noStar es = true then some es else none
  | _ => none
def subN : Expr → Option (Expr × Expr × Pos)
  | .Subscript a b p => some (a, b, p)
  | _ => none
def exprN : Stmt → Option (Expr × Pos)
  | .Expr e p => some (e, p)
  | _ => none
def ifN : Stmt → Option (Expr × List Stmt × List Stmt)
  | .If c a b _ => some (c, a, b)
  | _ => none
def whileN : Stmt → Option (Expr × List Stmt)
  | .While c a [] _ => some (c, a)
  | _ => none
def forN : Stmt → Option (Expr × Expr × List Stmt)
  | .For t i a [] _ => some (t, i, a)
  | _ => none
def retE : Stmt → Option (Option Expr)
  | .Return e _ => some e
  | _ => none
def isPass : Stmt → Bool
  | .Pass _ => true
  | _ => false
def isBrk : Stmt → Bool
  | .Break _ => true
  | _ => false
def isCont : Stmt → Bool
  | .Continue _ => true
  | _ => false
theorem asgN_some {s : Stmt} {t e : Expr} {pos : Pos} (h : asgN s = some (t, e, pos)) : s = .Assign [t] e pos := by
  unfold asgN at h; split at h <;> cases h; rfl
theorem nameP_some {e : Expr} {x : Str} {p : Pos} (h : nameP e = some (x, p)) : e = .Name x p := by
  unfold nameP at h; split at h <;> cases h; rfl
theorem tupN_some {e : Expr} {es : List Expr} (h : tupN e = some es) : ∃ k p, e = .Tuple es k p ∧ noStar es = true := by
  unfold tupN at h
  split at h
  · split at h
    · cases h; exact ⟨_, _, rfl, by assumption⟩
    · cases h
  · cases h
theorem subN_some {e a b : Expr} {p : Pos} (h : subN e = some (a, b, p)) : e = .Subscript a b p := by
  unfold subN at h; split at h <;> cases h; rfl
theorem exprN_some {s : Stmt} {e : Expr} {p : Pos} (h : exprN s = some (e, p)) : s = .Expr e p := by
  unfold exprN at h; split at h <;> cases h; rfl
theorem ifN_some {s : Stmt} {c : Expr} {a b : List Stmt} (h : ifN s = some (c, a, b)) : ∃ p, s = .If c a b p := by
  unfold ifN at h; split at h <;> cases h; exact ⟨_, rfl⟩
theorem whileN_some {s : Stmt} {c : Expr} {a : List Stmt} (h : whileN s = some (c, a)) : ∃ p, s = .While c a [] p := by
  unfold whileN at h; split at h <;> cases h; exact ⟨_, rfl⟩
theorem forN_some {s : Stmt} {t i : Expr} {a : List Stmt} (h : forN s = some (t, i, a)) : ∃ p, s = .For t i a [] p := by
  unfold forN at h; split at h <;> cases h; exact ⟨_, rfl⟩
theorem retE_some {s : Stmt} {e : Option Expr} (h : retE s = some e) : ∃ p, s = .Return e p := by
  unfold retE at h; split at h <;> cases h; exact ⟨_, rfl⟩

def Fx.isComp : Fx → Bool
  | .comp _ _ _ _ => true
  | .compIf _ _ _ _ _ => true
  | _ => false
section
variable (c : Ck) (sc : Scope)
def okPs : Prs → List Expr → Bool
  | .nil, [] => true
  | .cons _ f r, x :: xs => okF c sc sc f x && okPs r xs
  | _, _ => false
/-- the names of a tuple target -/
def okNs : List Nat → List Expr → Bool
  | [], [] => true
  | i :: is, x :: xs => (match nameP x with
    | some (y, _) => decide (c.N[i]? = some y) && (decide (sc.names.lookup y = some .local) || okStore sc y)
    | none => false) && okNs is xs
  | _, _ => false
def namesOf (xs : List Expr) : List Str := xs.filterMap fun x => (nameP x).map (·.1)
def allLocal (xs : List Expr) : Bool := xs.all fun x => match nameP x with
  | some (y, _) => decide (sc.names.lookup y = some .local)
  | none => false
def okPath (i : Nat) : Exs → Expr → Bool
  | .nil, o => okVar c.N sc i o
  | .cons e .nil, o => match subN o with
    | some (b, k, _) => okVar c.N sc i b && (notSl k && okE c sc sc e k)
    | none => false
  | _, _ => false
mutual
def okS : Sm → Stmt → Bool
  | .asg i f, s => match asgN s with
    | some (t, e, pos) => match nameP t with
      | some (x, p) => decide (c.N[i]? = some x) && (okStore sc x && (okF c sc sc f e && (swB sc e (some (.Name x p)) pos.line false || (swB sc e (some (.Name x p)) pos.line true && (decide (sc.names.lookup x = some .local) && f.isComp)))))
      | none => false
    | none => false
  | .par p, s => match asgN s with
    | some (t, e, pos) => match tupN t, tupN e with
      | some ts, some es => okNs c sc p.ixs ts && (okPs c sc p es && (soleB sc [t] e pos.line && ((decide (p.ixs.length ≤ 1000) && storesB sc [t] e none) || (storesB sc [t] e (some (namesOf ts)) && (allLocal sc ts && (decide (ts.length = 2 ∨ ts.length = 3) && decide p.ixs.Nodup))))))
      | _, _ => false
    | none => false
  | .unp tg e, s => match asgN s with
    | some (t, x, pos) => isTupE t && (okTg c.N sc tg t && (okE c sc sc e x && (soleB sc [t] x pos.line && storesB sc [t] x none)))
    | none => false
  | .app i p f, s => match exprN s with
    | some (x, _) => match methN "append" x with
      | some (o, [a]) => okPath c sc i p o && okF c sc sc f a
      | _ => false
    | none => false
  | .ext i p e, s => match exprN s with
    | some (x, _) => match methN "extend" x with
      | some (o, [a]) => okPath c sc i p o && okE c sc sc e a
      | _ => false
    | none => false
  | .set i p k e, s => match asgN s with
    | some (t, x, pos) => match subN t with
      | some (o, a, tp) => okE c sc sc e x && (okPath c sc i p o && ((notSl a && okE c sc sc k a) && (soleB sc [.Subscript o a tp] x pos.line && storesB sc [.Subscript o a tp] x none)))
      | none => false
    | none => false
  | .expr e, s => match exprN s with
    | some (x, pos) => okE c sc sc e x && swB sc x none pos.line false
    | none => false
  | .ite e a b, s => match ifN s with
    | some (x, xs, ys) => okE c sc sc e x && (tst e x && (okSs a xs && okSs b ys))
    | none => false
  | .whil e a, s => match whileN s with
    | some (x, xs) => okE c sc sc e x && (tst e x && okSs a xs)
    | none => false
  | .for_ tg it a, s => match forN s with
    | some (t, x, xs) => okIt c sc sc it t x && (noSet x && (okTg c.N sc tg t && okSs a xs))
    | none => false
  | .ret f, s => match retE s with
    | some (some x) => okF c sc sc f x
    | _ => false
  | .retN, s => match retE s with
    | some none => true
    | _ => false
  | .brk, s => isBrk s
  | .cont, s => isCont s
  | .pass, s => isPass s
  | .stuck, _ => true
def okSs : Sms → List Stmt → Bool
  | .nil, [] => true
  | .cons s r, st :: rest => okS s st && okSs r rest
  | _, _ => false
end
end

/-! ### several values at once -/
section
variable {R : Env1} {k : Nat} {c : Ck} {Φ : Fns} {G : Nat → Option D} {sc : Scope} {X : Cx} {pins : List Nat}
theorem P_sound (L : Lk R k c Φ G) (gd : Gd R k c.N sc sc X) : ∀ (p : Prs) (xs : List Expr) (ρ ρ' : Rho) (ts : List T), noStar xs = true → okPs c sc p xs = true → p.evp Φ G ρ = some (ts, ρ') → PA X xs (nJs X.K ρ ts true ρ') ∧ p.ixs.length = xs.length ∧ xs.length = ts.length
  | .nil, xs, ρ, ρ', ts, hn, ok, h => by
    cases xs with
    | cons x xs => unfold okPs at ok; cases ok
    | nil =>
      cases h
      refine ⟨PA_imp pa_nil fun σ H Q q => ?_, rfl, rfl⟩
      obtain ⟨M, F, own, S, q⟩ := q
      exact q [] H own [] ((Pst.rf S).gst.weak fun z => nomatch z)
  | .cons i f r, xs, ρ, ρ', ts, hn, ok, h => by
    cases xs with
    | nil => unfold okPs at ok; cases ok
    | cons x xs =>
      unfold okPs at ok
      obtain ⟨k1, k2⟩ := Bool.and_eq_true_iff.mp ok
      unfold Prs.evp at h
      split at h
      · rename_i t ρ1 hf
        split at h
        · rename_i ts2 ρ2 hr
          cases h
          obtain ⟨h1, h2, h3⟩ := P_sound L gd r xs ρ1 _ ts2 (star_tail hn) k2 hr
          refine ⟨PA_imp (pa_cons (F_sound L f sc sc X x ρ ρ1 t gd k1 hf) h1 (star_cons hn _)) fun σ H Q q => ?_, congrArg (· + 1) h2, congrArg (· + 1) h3⟩
          obtain ⟨M, F, own, S, q⟩ := q
          refine ⟨M, F, own, S, fun v H1 own1 fp1 P1 => ⟨fp1 ++ M, cutl own1 H1, own1, P1.sl, fun vs H2 own2 fp2 P2 => ?_⟩⟩
          exact q (v :: vs) H2 own2 (fp1 ++ fp2) ((Gst.tr S P1 P2).weak fun z => nomatch z)
        · cases h
      · cases h
def gNm (is : List Nat) : TGs := fun vs σ H Q => vs.length = is.length ∧ Q (sets σ is vs) H
theorem pgs_nm (gd : Gd R k c.N sc sc X) : ∀ (is : List Nat) (xs : List Expr), okNs c sc is xs = true → PGs X xs (gNm is) ∧ noStar xs = true ∧ is.length = xs.length
  | [], xs, ok => by
    cases xs with
    | cons x xs => unfold okNs at ok; cases ok
    | nil => exact ⟨PGs_imp pgs_nil fun vs σ H Q q => by
        obtain ⟨h, q⟩ := q
        have : vs = [] := List.eq_nil_of_length_eq_zero h
        subst this
        exact ⟨rfl, q⟩, rfl, rfl⟩
  | i :: is, xs, ok => by
    cases xs with
    | nil => unfold okNs at ok; cases ok
    | cons x xs =>
      unfold okNs at ok
      obtain ⟨k1, k2⟩ := Bool.and_eq_true_iff.mp ok
      split at k1
      · rename_i y p hy
        obtain rfl := nameP_some hy
        obtain ⟨k3, k4⟩ := Bool.and_eq_true_iff.mp k1
        obtain ⟨h1, h2, h3⟩ := pgs_nm gd is xs k2
        have hst := gd.st y (by
          rcases Bool.or_eq_true_iff.mp k4 with z | z
          · exact .inl (of_decide_eq_true z)
          · exact store_of z)
        refine ⟨PGs_imp (pgs_cons (pg_name (by rw [gd.nn]; exact gd.nd) (by rw [gd.nn]; exact of_decide_eq_true k3) (by rw [gd.scp]; exact hst.1) (by rw [gd.scp]; exact hst.2)) h1 rfl) fun vs σ H Q q => ?_, h2, congrArg (· + 1) h3⟩
        obtain ⟨h, q⟩ := q
        cases vs with
        | nil => cases h
        | cons v vs => exact ⟨v, vs, rfl, Nat.succ.inj h, q⟩
      · cases k1
/-- all values in one tuple, then stored -/
theorem s_parT {is : List Nat} {ts : List Expr} {es : List Expr} {kt k2 : Nat} {pt p2 pos : Pos} {ρ ρ1 ρ2 : Rho} {us : List T} (gd : Gd R k c.N sc sc X) (hg : PGs X ts (gNm is)) (hn : noStar ts = true) (hl : is.length = ts.length) (ha : PA X es (nJs X.K ρ us true ρ1)) (hl2 : us.length = is.length) (hz : us.length ≤ 1000)
    (hs : swapsWithSole [.Tuple ts kt pt] (.Tuple es k2 p2) pos.line X.env = pure false) (hw : swappedStores [.Tuple ts kt pt] (.Tuple es k2 p2) X.env = pure none) (hb : binds pins is us ρ1 = some ρ2) :
    PS X (.Assign [.Tuple ts kt pt] (.Tuple es k2 p2) pos) (sJ X.K pins ρ .nx ρ2) := PS_imp (ps_asg (pe_tup ha) (pg_tup (n := ts.length) gd.calm hg (asg_len hn _).1 (asg_len hn _).2) hs hw (by rw [asg_cons rfl]; rfl)) fun D σ H q => by
  obtain ⟨M, F, own, S, q⟩ := q
  refine ⟨M, F, own, S, fun vs H1 own1 fp P => ?_⟩
  have hvl : vs.length = us.length := P.rp.len
  refine ⟨by rw [hvl]; exact Nat.le_trans hz (by decide), fun p hp => ?_⟩
  have e1 : Sub H1 (upd H1 p (.tup vs)) := Sub.new hp
  obtain ⟨own2, st, _⟩ := (P.grow e1).sst S hb
  exact ⟨p, vs, rfl, .inl (.inl upd_same), by omega, by omega, q _ own2 _ st⟩
theorem binds_len : ∀ {is : List Nat} {ts : List T} {ρ ρ' : Rho}, binds pins is ts ρ = some ρ' → is.length = ts.length
  | [], [], _, _, _ => rfl
  | [], _ :: _, _, _, h => by cases h
  | _ :: _, [], _, _, h => by cases h
  | i :: is, t :: ts, ρ, ρ', h => by
    unfold binds at h
    split at h
    · exact congrArg (· + 1) (binds_len h)
    · cases h
theorem s_par2 {i j : Nat} {x y : Str} {a b : Expr} {kt k2 : Nat} {px py pt p2 pos : Pos} {ρ ρ1 ρ2 : Rho} {us : List T} (gd : Gd R k c.N sc sc X) (hi : c.N[i]? = some x) (hj : c.N[j]? = some y) (hij : i ≠ j) (hx : sc.names.lookup x = some .local) (hy : sc.names.lookup y = some .local) (ha : PA X [a, b] (nJs X.K ρ us true ρ1))
    (hs : swapsWithSole [.Tuple [.Name x px, .Name y py] kt pt] (.Tuple [a, b] k2 p2) pos.line X.env = pure false) (hw : swappedStores [.Tuple [.Name x px, .Name y py] kt pt] (.Tuple [a, b] k2 p2) X.env = pure (some [x, y])) (hb : binds pins [i, j] us ρ1 = some ρ2) :
    PS X (.Assign [.Tuple [.Name x px, .Name y py] kt pt] (.Tuple [a, b] k2 p2) pos) (sJ X.K pins ρ .nx ρ2) := PS_imp (ps_par gd.calm (by rw [gd.nn]; exact gd.nd) (by rw [gd.nn]; exact hi) (by rw [gd.nn]; exact hj) hij (by rw [gd.scp]; exact hx) (by rw [gd.scp]; exact hy) ha hw hs) fun D σ H q => by
  obtain ⟨M, F, own, S, q⟩ := q
  refine ⟨M, F, own, S, fun vs H1 own1 fp P => ?_⟩
  have hvl : vs.length = us.length := P.rp.len
  have hul := binds_len hb
  obtain ⟨own2, st, _⟩ := P.sst S hb
  match vs, hvl with
  | [v, w], _ => exact ⟨v, w, rfl, q _ own2 _ st⟩
  | [], h => rw [← hul] at h; cases h
  | [_], h => rw [← hul] at h; cases h
  | _ :: _ :: _ :: _, h => rw [← hul] at h; simp at h
theorem s_par3 {i j l : Nat} {x y z : Str} {a b d : Expr} {kt k2 : Nat} {px py pz pt p2 pos : Pos} {ρ ρ1 ρ2 : Rho} {us : List T} (gd : Gd R k c.N sc sc X) (hi : c.N[i]? = some x) (hj : c.N[j]? = some y) (hl : c.N[l]? = some z) (hij : i ≠ j) (hil : i ≠ l) (hjl : j ≠ l) (hx : sc.names.lookup x = some .local) (hy : sc.names.lookup y = some .local) (hz : sc.names.lookup z = some .local) (ha : PA X [a, b, d] (nJs X.K ρ us true ρ1))
    (hs : swapsWithSole [.Tuple [.Name x px, .Name y py, .Name z pz] kt pt] (.Tuple [a, b, d] k2 p2) pos.line X.env = pure false) (hw : swappedStores [.Tuple [.Name x px, .Name y py, .Name z pz] kt pt] (.Tuple [a, b, d] k2 p2) X.env = pure (some [x, y, z])) (hb : binds pins [i, j, l] us ρ1 = some ρ2) :
    PS X (.Assign [.Tuple [.Name x px, .Name y py, .Name z pz] kt pt] (.Tuple [a, b, d] k2 p2) pos) (sJ X.K pins ρ .nx ρ2) := PS_imp (L2.ps_par3 gd.calm (by rw [gd.nn]; exact gd.nd) (by rw [gd.nn]; exact hi) (by rw [gd.nn]; exact hj) (by rw [gd.nn]; exact hl) hij hil hjl (by rw [gd.scp]; exact hx) (by rw [gd.scp]; exact hy) (by rw [gd.scp]; exact hz) ha hw hs) fun D σ H q => by
  obtain ⟨M, F, own, S, q⟩ := q
  refine ⟨M, F, own, S, fun vs H1 own1 fp P => ?_⟩
  have hvl : vs.length = us.length := P.rp.len
  have hul := binds_len hb
  obtain ⟨own2, st, _⟩ := P.sst S hb
  match vs, hvl with
  | [u, v, w], _ => exact ⟨u, v, w, rfl, q _ own2 _ st⟩
  | [], h => rw [← hul] at h; cases h
  | [_], h => rw [← hul] at h; cases h
  | [_, _], h => rw [← hul] at h; cases h
  | _ :: _ :: _ :: _ :: _, h => rw [← hul] at h; simp at h
end
end Em

set_option Elab.async false
set_option linter.all false
set_option maxRecDepth 100000
set_option maxHeartbeats 8000000
/-! EmW: the text does what the small language's statement does. -/
namespace Em
open PySem PySem.Spec PyProof.Rows L2
section
variable {R : Env1} {k : Nat} {c : Ck} {Φ : Fns} {G : Nat → Option D} {sc : Scope} {X : Cx} {pins : List Nat}
/-- name = [..], the comprehension's list stored within -/
theorem Lc_sound (L : Lk R k c Φ G) (gd : Gd R k c.N sc sc X) : ∀ (f : Fx) (x : Expr) (ρ ρ' : Rho) (t : T) (i : Nat) (y : Str) (py spos : Pos), okF c sc sc f x = true → f.evf Φ G ρ = some (t, ρ') → f.isComp = true → c.N[i]? = some y → sc.names.lookup y = some .local → swapsWith x (some (.Name y py)) spos.line X.env = pure true →
    PS X (.Assign [.Name y py] x spos) (fun D σ H => nJ X.K ρ t f.mut ρ' σ H fun v H1 => D.nx (σ.set i (some v)) H1)
  | .comp vs tg it f, x, ρ, ρ', t, i, y, py, spos, ok, h, _, hi, hy, hsw => by
    unfold okF at ok
    split at ok
    · rename_i elt tx iter scope hx
      obtain ⟨p, rfl⟩ := compN_some hx
      obtain ⟨k1, ok⟩ := Bool.and_eq_true_iff.mp ok
      obtain ⟨k2, ok⟩ := Bool.and_eq_true_iff.mp ok
      obtain ⟨k3, ok⟩ := Bool.and_eq_true_iff.mp ok
      obtain ⟨k4, ok⟩ := Bool.and_eq_true_iff.mp ok
      obtain ⟨k5, ok⟩ := Bool.and_eq_true_iff.mp ok
      obtain ⟨k6, k7⟩ := Bool.and_eq_true_iff.mp ok
      unfold Fx.evf at h
      split at h
      · rename_i ds ρ1 hi'
        split at h
        · rename_i hp
          obtain ⟨hp, hl⟩ := Bool.and_eq_true_iff.mp hp
          split at h
          · rename_i ts ρ5 hc
            cases h
            have hc : compL (turn0 vs tg (f.evf Φ G)) ds (wipeR ρ1 vs) = some (ts, ρ5) := hc
            have hsub : ∀ i ∈ tg.slots, i ∈ vs := fun i hi => by simpa using List.all_eq_true.mp k6 i hi
            have hlc := ps_setLc (X := X) (i := i) (y := y) (py := py) (spos := spos) (elt := elt) (pos := p) (g := uG X.K [] tg) (tt := tYes) (te := uE X.K f.mut (f.evf Φ G)) gd.calm (by rw [gd.nn]; exact gd.nd) (by rw [gd.nn]; exact hi) (by rw [gd.scp]; exact hy) hsw
              (I_sound L it sc sc X tx iter ρ ρ1 ds gd k1 hi') (blkOk_by (by rw [gd.nn, gd.scp]; exact k4))
              (fun s H C cl fp => ug_of (pins := []) (tg := tg) fun d ρ ρ' hb => tg_sound (gd.blk scope s H C cl fp) tg tx d ρ ρ' k5 hb)
              (fun s H C cl fp => pts_nil)
              (fun s H C cl fp => ue_of (m := f.mut) (ev := f.evf Φ G) fun ρ t ρ' he => F_sound L f (relS scope sc) scope _ elt ρ ρ' t (gd.blk scope s H C cl fp) k7 he) (fun x => fold_of k2 _ x)
            rw [own_of k3] at hlc
            exact PS_imp hlc fun D σ H q => lc_reading (step0 hsub) hc hp (of_decide_eq_true hl) σ H _ q
          · cases h
        · cases h
      · cases h
    · cases ok
  | .compIf vs tg it e f, x, ρ, ρ', t, i, y, py, spos, ok, h, _, hi, hy, hsw => by
    unfold okF at ok
    split at ok
    · rename_i elt tx iter a scope hx
      obtain ⟨p, rfl⟩ := compN_some hx
      obtain ⟨k1, ok⟩ := Bool.and_eq_true_iff.mp ok
      obtain ⟨k2, ok⟩ := Bool.and_eq_true_iff.mp ok
      obtain ⟨k3, ok⟩ := Bool.and_eq_true_iff.mp ok
      obtain ⟨k4, ok⟩ := Bool.and_eq_true_iff.mp ok
      obtain ⟨k5, ok⟩ := Bool.and_eq_true_iff.mp ok
      obtain ⟨k6, ok⟩ := Bool.and_eq_true_iff.mp ok
      obtain ⟨k8, ok⟩ := Bool.and_eq_true_iff.mp ok
      obtain ⟨k9, k7⟩ := Bool.and_eq_true_iff.mp ok
      unfold Fx.evf at h
      split at h
      · rename_i ds ρ1 hi'
        split at h
        · rename_i hp
          obtain ⟨hp, hl⟩ := Bool.and_eq_true_iff.mp hp
          split at h
          · rename_i ts ρ5 hc
            cases h
            have hc : compL (turn1 vs tg (e.ev Φ G) (f.evf Φ G)) ds (wipeR ρ1 vs) = some (ts, ρ5) := hc
            have hsub : ∀ i ∈ tg.slots, i ∈ vs := fun i hi => by simpa using List.all_eq_true.mp k6 i hi
            have hlc := ps_setLc (X := X) (i := i) (y := y) (py := py) (spos := spos) (elt := elt) (pos := p) (g := uG X.K [] tg) (tt := uT X.K e.mut (e.ev Φ G)) (te := uE X.K f.mut (f.evf Φ G)) gd.calm (by rw [gd.nn]; exact gd.nd) (by rw [gd.nn]; exact hi) (by rw [gd.scp]; exact hy) hsw
              (I_sound L it sc sc X tx iter ρ ρ1 ds gd k1 hi') (blkOk_by (by rw [gd.nn, gd.scp]; exact k4))
              (fun s H C cl fp => ug_of (pins := []) (tg := tg) fun d ρ ρ' hb => tg_sound (gd.blk scope s H C cl fp) tg tx d ρ ρ' k5 hb)
              (fun s H C cl fp => pts_one (ut_of (m := e.mut) (ev := e.ev Φ G) fun ρ b ρ' he => (E_sound L e (relS scope sc) scope _ a ρ ρ' _ (gd.blk scope s H C cl fp) k8 he).2 k9 b rfl))
              (fun s H C cl fp => ue_of (m := f.mut) (ev := f.evf Φ G) fun ρ t ρ' he => F_sound L f (relS scope sc) scope _ elt ρ ρ' t (gd.blk scope s H C cl fp) k7 he) (fun x => fold_of k2 _ x)
            rw [own_of k3] at hlc
            exact PS_imp hlc fun D σ H q => lc_reading (step1 hsub) hc hp (of_decide_eq_true hl) σ H _ q
          · cases h
        · cases h
      · cases h
    · cases ok
  | .ex _, _, _, _, _, _, _, _, _, _, _, hf, _, _, _ => by cases hf
  | .disp _, _, _, _, _, _, _, _, _, _, _, hf, _, _, _ => by cases hf
  | .rep _ _, _, _, _, _, _, _, _, _, _, _, hf, _, _, _ => by cases hf
  | .list _, _, _, _, _, _, _, _, _, _, _, hf, _, _, _ => by cases hf
  | .call _ _, _, _, _, _, _, _, _, _, _, _, hf, _, _, _ => by cases hf
/-- the object at a path -/
theorem Pt_sound (L : Lk R k c Φ G) (gd : Gd R k c.N sc sc X) {i : Nat} {p : Exs} {o : Expr} {ρ ρ1 : Rho} {ks : List T} {q : List Nat} (ok : okPath c sc i p o = true) (h : p.evs Φ G ρ = some (ks, ρ1)) (hq : natsOf ks = some q) (hl : isLs i q ρ1 = true) (hr : ∃ t, ρ[i]? = some (some t)) :
    PE X o (oJ X.K ρ i q p.mut ρ1) ∧ noSuper o = true := by
  unfold okPath at ok
  split at ok
  · obtain ⟨y, pp, rfl, h1, h2, h3, h4⟩ := okVar_of ok
    cases h
    obtain rfl := natsOf_nil hq
    exact ⟨o_nil (by rw [gd.nn]; exact h1) (by rw [gd.scp]; exact h2) h3 h4 hl, rfl⟩
  · rename_i e
    split at ok
    · rename_i b kx pp hs
      obtain rfl := subN_some hs
      obtain ⟨k1, ok⟩ := Bool.and_eq_true_iff.mp ok
      obtain ⟨k2, k3⟩ := Bool.and_eq_true_iff.mp ok
      obtain ⟨y, p2, rfl, h1, h2, h3, h4⟩ := okVar_of k1
      unfold Exs.evs at h
      split at h
      · rename_i t ρ2 he
        simp only [Exs.evs] at h
        split at h
        · cases h
        · cases h
          obtain ⟨kk, rfl, h0, rfl⟩ := natsOf_one hq
          refine ⟨?_, rfl⟩
          have := o_one (pos := pp) (p := p2) (by rw [gd.nn]; exact h1) (by rw [gd.scp]; exact h2) h3 h4 k2 (E_sound L e sc sc X kx ρ _ _ gd k3 he).1 h0 hr hl
          show PE X _ (oJ X.K ρ i [kk.toNat] (e.mut || false) ρ1)
          rw [Bool.or_false]
          exact this
      · cases h
    · cases ok
  · cases ok
def evB_some {e : Ex} {ρ ρ1 : Rho} {b : Bool} (h : e.evB Φ G ρ = some (b, ρ1)) : PLift (e.ev Φ G ρ = some (.im (.bl b), ρ1)) := by
  unfold Ex.evB at h
  split at h
  · rename_i hb
    cases h
    exact ⟨hb⟩
  · cases h
theorem has_some {i : Nat} {ρ : Rho} (h : has i ρ = true) : ∃ t, ρ[i]? = some (some t) := by
  unfold has at h
  split at h
  · rename_i t ht; exact ⟨t, ht⟩
  · cases h
theorem emp_or {q : List Nat} {m : Bool} (h : (q.isEmpty || !m) = true) : q = [] ∨ m = false := by
  rcases Bool.or_eq_true_iff.mp h with h | h
  · exact .inl (List.isEmpty_iff.mp h)
  · exact .inr (by simpa using h)
theorem ns1 {i : Nat} {is : List Nat} {x : Expr} {xs : List Expr} (h : okNs c sc (i :: is) (x :: xs) = true) (l : allLocal sc (x :: xs) = true) : ∃ y p, x = .Name y p ∧ c.N[i]? = some y ∧ sc.names.lookup y = some .local ∧ okNs c sc is xs = true ∧ allLocal sc xs = true := by
  unfold okNs at h
  obtain ⟨k1, k2⟩ := Bool.and_eq_true_iff.mp h
  unfold allLocal at l
  rw [List.all_cons] at l
  obtain ⟨k3, k4⟩ := Bool.and_eq_true_iff.mp l
  split at k1
  · rename_i y p hy
    rw [hy] at k3
    obtain rfl := nameP_some hy
    exact ⟨y, p, rfl, of_decide_eq_true (Bool.and_eq_true_iff.mp k1).1, of_decide_eq_true k3, k2, k4⟩
  · cases k1
theorem ns2 {is : List Nat} {t1 t2 : Expr} (h : okNs c sc is [t1, t2] = true) (l : allLocal sc [t1, t2] = true) : ∃ i j x px y py, is = [i, j] ∧ t1 = .Name x px ∧ t2 = .Name y py ∧ c.N[i]? = some x ∧ c.N[j]? = some y ∧ sc.names.lookup x = some .local ∧ sc.names.lookup y = some .local := by
  match is with
  | [] => unfold okNs at h; cases h
  | [i] =>
    obtain ⟨_, _, _, _, _, h, _⟩ := ns1 h l
    unfold okNs at h; cases h
  | [i, j] =>
    obtain ⟨x, px, e1, n1, l1, h, l⟩ := ns1 h l
    obtain ⟨y, py, e2, n2, l2, h, l⟩ := ns1 h l
    exact ⟨i, j, x, px, y, py, rfl, e1, e2, n1, n2, l1, l2⟩
  | i :: j :: l0 :: r =>
    obtain ⟨_, _, _, _, _, h, l⟩ := ns1 h l
    obtain ⟨_, _, _, _, _, h, l⟩ := ns1 h l
    unfold okNs at h; cases h
theorem ns3 {is : List Nat} {t1 t2 t3 : Expr} (h : okNs c sc is [t1, t2, t3] = true) (l : allLocal sc [t1, t2, t3] = true) : ∃ i j m x px y py z pz, is = [i, j, m] ∧ t1 = .Name x px ∧ t2 = .Name y py ∧ t3 = .Name z pz ∧ c.N[i]? = some x ∧ c.N[j]? = some y ∧ c.N[m]? = some z ∧ sc.names.lookup x = some .local ∧ sc.names.lookup y = some .local ∧ sc.names.lookup z = some .local := by
  match is with
  | [] => unfold okNs at h; cases h
  | i :: is =>
    obtain ⟨x, px, e1, n1, l1, h, l⟩ := ns1 h l
    obtain ⟨j, m, y, py, z, pz, e2, e3, e4, n2, n3, l2, l3⟩ := ns2 h l
    exact ⟨i, j, m, x, px, y, py, z, pz, by rw [e2], e1, e3, e4, n1, n2, n3, l1, l2, l3⟩
mutual
theorem S_sound (L : Lk R k c Φ G) (gd : Gd R k c.N sc sc X) : ∀ (s : Sm) (st : Stmt) (ρ ρ' : Rho) (fl : Fl), okS c sc s st = true → s.run Φ G pins ρ = some (fl, ρ') → PS X st (sJ X.K pins ρ fl ρ')
  | .asg i f, st, ρ, ρ', fl, ok, h => by
    unfold okS at ok
    split at ok
    · rename_i t e pos hs
      obtain rfl := asgN_some hs
      split at ok
      · rename_i x p hx
        obtain rfl := nameP_some hx
        obtain ⟨k1, ok⟩ := Bool.and_eq_true_iff.mp ok
        obtain ⟨k2, ok⟩ := Bool.and_eq_true_iff.mp ok
        obtain ⟨k3, k4⟩ := Bool.and_eq_true_iff.mp ok
        have hi := of_decide_eq_true k1
        obtain ⟨st1, st2⟩ := gd.st x (store_of k2)
        unfold Sm.run at h
        split at h
        · rename_i u ρ1 hf
          split at h
          · rename_i ρ2 hb
            cases h
            rcases Bool.or_eq_true_iff.mp k4 with k4 | k4
            · exact s_asg (by rw [gd.nn]; exact gd.nd) (by rw [gd.nn]; exact hi) (by rw [gd.scp]; exact st1) (by rw [gd.scp]; exact st2) (swB_of k4 gd.scp) (F_sound L f sc sc X e ρ ρ1 u gd k3 hf) hb
            · obtain ⟨k5, k6⟩ := Bool.and_eq_true_iff.mp k4
              obtain ⟨k7, k8⟩ := Bool.and_eq_true_iff.mp k6
              refine PS_imp (Lc_sound L gd f e ρ ρ1 u i x p pos k3 hf k8 hi (of_decide_eq_true k7) (swB_of k5 gd.scp)) fun D σ H q => ?_
              obtain ⟨M, F, own, S, q⟩ := q
              refine ⟨M, F, own, S, fun v H1 own1 fp P => ?_⟩
              obtain ⟨own2, s, _⟩ := P.sst S (binds1 hb)
              exact q H1 own2 _ s
          · cases h
        · cases h
      · cases ok
    · cases ok
  | .par p, st, ρ, ρ', fl, ok, h => by
    unfold okS at ok
    split at ok
    · rename_i t e pos hs
      obtain rfl := asgN_some hs
      split at ok
      · rename_i ts es ht he
        obtain ⟨kt, pt, rfl, hn1⟩ := tupN_some ht
        obtain ⟨k2, p2, rfl, hn2⟩ := tupN_some he
        obtain ⟨k1, ok⟩ := Bool.and_eq_true_iff.mp ok
        obtain ⟨k3, ok⟩ := Bool.and_eq_true_iff.mp ok
        obtain ⟨k4, k5⟩ := Bool.and_eq_true_iff.mp ok
        unfold Sm.run at h
        split at h
        · rename_i us ρ1 hp
          split at h
          · rename_i ρ2 hb
            cases h
            obtain ⟨a1, a2, a3⟩ := P_sound L gd p es ρ ρ1 us hn2 k3 hp
            obtain ⟨g1, g2, g3⟩ := pgs_nm gd p.ixs ts k1
            have hlb := binds_len hb
            rcases Bool.or_eq_true_iff.mp k5 with k5 | k5
            · obtain ⟨k6, k5⟩ := Bool.and_eq_true_iff.mp k5
              exact s_parT gd g1 hn1 g3 a1 (by omega) (by rw [← hlb]; exact of_decide_eq_true k6) (soleB_of k4 gd.scp) (storesB_of k5 gd.scp) hb
            · obtain ⟨k6, k7⟩ := Bool.and_eq_true_iff.mp k5
              obtain ⟨k8, k9⟩ := Bool.and_eq_true_iff.mp k7
              obtain ⟨k10, k11⟩ := Bool.and_eq_true_iff.mp k9
              have hnd := of_decide_eq_true k11
              rcases of_decide_eq_true k10 with hl | hl
              · match ts, hl with
                | [t1, t2], _ =>
                  obtain ⟨i, j, x, px, y, py, hix, rfl, rfl, n1, n2, l1, l2⟩ := ns2 k1 k8
                  rw [hix] at hb hnd
                  have hij : i ≠ j := by
                    intro z
                    rw [z] at hnd
                    simp at hnd
                  match es, (show es.length = 2 by rw [← a2, hix]; rfl) with
                  | [e1, e2], _ => exact s_par2 gd n1 n2 hij l1 l2 a1 (soleB_of k4 gd.scp) (storesB_of k6 gd.scp) hb
              · match ts, hl with
                | [t1, t2, t3], _ =>
                  obtain ⟨i, j, l, x, px, y, py, z, pz, hix, rfl, rfl, rfl, n1, n2, n3, l1, l2, l3⟩ := ns3 k1 k8
                  rw [hix] at hb hnd
                  have hij : i ≠ j ∧ i ≠ l ∧ j ≠ l := by
                    simp only [List.nodup_cons, List.mem_cons, List.not_mem_nil, or_false, not_or] at hnd
                    exact ⟨hnd.1.1, hnd.1.2, hnd.2.1⟩
                  match es, (show es.length = 3 by rw [← a2, hix]; rfl) with
                  | [e1, e2, e3], _ => exact Em.s_par3 gd n1 n2 n3 hij.1 hij.2.1 hij.2.2 l1 l2 l3 a1 (soleB_of k4 gd.scp) (storesB_of k6 gd.scp) hb
          · cases h
        · cases h
      · cases ok
    · cases ok
  | .unp tg e, st, ρ, ρ', fl, ok, h => by
    unfold okS at ok
    split at ok
    · rename_i t x pos hs
      obtain rfl := asgN_some hs
      obtain ⟨k1, ok⟩ := Bool.and_eq_true_iff.mp ok
      obtain ⟨k2, ok⟩ := Bool.and_eq_true_iff.mp ok
      obtain ⟨k3, ok⟩ := Bool.and_eq_true_iff.mp ok
      obtain ⟨k4, k5⟩ := Bool.and_eq_true_iff.mp ok
      unfold Sm.run at h
      split at h
      · rename_i d ρ1 he
        split at h
        · rename_i ρ2 hb
          cases h
          refine s_unp (g := tg) (soleB_of k4 gd.scp) (storesB_of k5 gd.scp) ?_ (E_sound L e sc sc X x ρ ρ1 _ gd k3 he).1 (tg_sound gd tg t d ρ1 _ k2 hb)
          cases t <;> first | rfl | cases k1
        · cases h
      · cases h
    · cases ok
  | .app i p f, st, ρ, ρ', fl, ok, h => by
    unfold okS at ok
    split at ok
    · rename_i x pos hs
      obtain rfl := exprN_some hs
      split at ok
      · rename_i o a hm
        obtain ⟨ap, cpos, rfl, h1, h2, h3⟩ := methN_some hm
        obtain ⟨k1, k2⟩ := Bool.and_eq_true_iff.mp ok
        unfold Sm.run at h
        split at h
        · rename_i ks ρ1 hp
          split at h
          · rename_i q hq
            split at h
            · rename_i u ρ2 hf
              split at h
              · rename_i ρ3 hc
                split at h
                · rename_i hi
                  cases h
                  obtain ⟨i1, hi⟩ := Bool.and_eq_true_iff.mp hi
                  obtain ⟨i2, i3⟩ := Bool.and_eq_true_iff.mp hi
                  obtain ⟨q1, q2⟩ := Pt_sound L gd k1 hp hq i2 (has_some i1)
                  exact s_app (f' := f) q1 q2 h3 h2 (F_sound L f sc sc X a ρ1 ρ2 u gd k2 hf) (emp_or i3) hc
                · cases h
              · cases h
            · cases h
          · cases h
        · cases h
      · cases ok
    · cases ok
  | .ext i p e, st, ρ, ρ', fl, ok, h => by
    unfold okS at ok
    split at ok
    · rename_i x pos hs
      obtain rfl := exprN_some hs
      split at ok
      · rename_i o a hm
        obtain ⟨ap, cpos, rfl, h1, h2, h3⟩ := methN_some hm
        obtain ⟨k1, k2⟩ := Bool.and_eq_true_iff.mp ok
        unfold Sm.run at h
        split at h
        · rename_i ks ρ1 hp
          split at h
          · rename_i q hq
            split at h
            · rename_i d ρ2 hf
              split at h
              · rename_i ds hd
                split at h
                · rename_i ρ3 hc
                  split at h
                  · rename_i hi
                    cases h
                    obtain ⟨i1, hi⟩ := Bool.and_eq_true_iff.mp hi
                    obtain ⟨i2, i3⟩ := Bool.and_eq_true_iff.mp hi
                    obtain ⟨q1, q2⟩ := Pt_sound L gd k1 hp hq i2 (has_some i1)
                    exact s_ext q1 q2 h3 h2 (E_sound L e sc sc X a ρ1 ρ2 _ gd k2 hf).1 hd (emp_or i3) hc
                  · cases h
                · cases h
              · cases h
            · cases h
          · cases h
        · cases h
      · cases ok
    · cases ok
  | .set i p kx e, st, ρ, ρ', fl, ok, h => by
    unfold okS at ok
    split at ok
    · rename_i t x pos hs
      obtain rfl := asgN_some hs
      split at ok
      · rename_i o a tp ht
        obtain rfl := subN_some ht
        obtain ⟨k1, ok⟩ := Bool.and_eq_true_iff.mp ok
        obtain ⟨k2, ok⟩ := Bool.and_eq_true_iff.mp ok
        obtain ⟨k3, ok⟩ := Bool.and_eq_true_iff.mp ok
        obtain ⟨k4, k5⟩ := Bool.and_eq_true_iff.mp ok
        obtain ⟨k0, k3⟩ := Bool.and_eq_true_iff.mp k3
        unfold Sm.run at h
        split at h
        · rename_i d ρ1 he
          split at h
          · rename_i ks ρ2 hp
            split at h
            · rename_i q hq
              split at h
              · rename_i j ρ3 hk
                split at h
                · rename_i ρ4 hc
                  split at h
                  · rename_i hi
                    cases h
                    obtain ⟨i1, hi⟩ := Bool.and_eq_true_iff.mp hi
                    obtain ⟨i2, i3⟩ := Bool.and_eq_true_iff.mp hi
                    obtain ⟨q1, q2⟩ := Pt_sound L gd k2 hp hq i2 (has_some i1)
                    exact s_set (E_sound L e sc sc X x ρ ρ1 _ gd k1 he).1 q1 (E_sound L kx sc sc X a ρ2 ρ3 _ gd k3 hk).1 (emp_or i3) (soleB_of k4 gd.scp) (storesB_of k5 gd.scp) (fun _ => by cases a <;> first | rfl | cases k0) hc
                  · cases h
                · cases h
              · cases h
            · cases h
          · cases h
        · cases h
      · cases ok
    · cases ok
  | .expr e, st, ρ, ρ', fl, ok, h => by
    unfold okS at ok
    split at ok
    · rename_i x pos hs
      obtain rfl := exprN_some hs
      obtain ⟨k1, k2⟩ := Bool.and_eq_true_iff.mp ok
      unfold Sm.run at h
      split at h
      · rename_i t ρ1 he
        cases h
        exact s_expr (swB_of k2 gd.scp) (E_sound L e sc sc X x ρ _ t gd k1 he).1
      · cases h
    · cases ok
  | .ite e a b, st, ρ, ρ', fl, ok, h => by
    unfold okS at ok
    split at ok
    · rename_i x xs ys hs
      obtain ⟨p, rfl⟩ := ifN_some hs
      obtain ⟨k1, ok⟩ := Bool.and_eq_true_iff.mp ok
      obtain ⟨k2, ok⟩ := Bool.and_eq_true_iff.mp ok
      obtain ⟨k3, k4⟩ := Bool.and_eq_true_iff.mp ok
      unfold Sm.run at h
      split at h
      · rename_i ρ1 hb
        obtain ⟨hb⟩ := evB_some hb
        exact s_ite ((E_sound L e sc sc X x ρ ρ1 _ gd k1 hb).2 k2 true rfl) (fun _ => Ss_sound L gd a xs ρ1 ρ' fl k3 h) (fun z => nomatch z)
      · rename_i ρ1 hb
        obtain ⟨hb⟩ := evB_some hb
        exact s_ite ((E_sound L e sc sc X x ρ ρ1 _ gd k1 hb).2 k2 false rfl) (fun z => nomatch z) (fun _ => Ss_sound L gd b ys ρ1 ρ' fl k4 h)
      · cases h
    · cases ok
  | .whil e a, st, ρ, ρ', fl, ok, h => by
    unfold okS at ok
    split at ok
    · rename_i x xs hs
      obtain ⟨p, rfl⟩ := whileN_some hs
      obtain ⟨k1, ok⟩ := Bool.and_eq_true_iff.mp ok
      obtain ⟨k2, k3⟩ := Bool.and_eq_true_iff.mp ok
      unfold Sm.run at h
      refine PS_imp (ps_while (by rw [gd.xe]; exact PassesOwn.never) (ub_of (m := e.mut) (ev := e.evB Φ G) fun ρ b ρ' hb => ?_) (us_of (pins := pins) (run := a.runs Φ G pins) fun ρ fl ρ' hr => Ss_sound L gd a xs ρ ρ' fl k3 hr)) (while_reading h)
      obtain ⟨hb⟩ := evB_some hb
      exact (E_sound L e sc sc X x ρ ρ' _ gd k1 hb).2 k2 b rfl
    · cases ok
  | .for_ tg it a, st, ρ, ρ', fl, ok, h => by
    unfold okS at ok
    split at ok
    · rename_i t x xs hs
      obtain ⟨p, rfl⟩ := forN_some hs
      obtain ⟨k1, ok⟩ := Bool.and_eq_true_iff.mp ok
      obtain ⟨k2, ok⟩ := Bool.and_eq_true_iff.mp ok
      obtain ⟨k3, k4⟩ := Bool.and_eq_true_iff.mp ok
      unfold Sm.run at h
      split at h
      · rename_i ds ρ1 hi
        have h : forL (turnS pins tg (a.runs Φ G pins)) ds ρ1 = some (fl, ρ') := h
        exact PS_imp (ps_for (by rw [gd.xe]; exact PassesOwn.never) gd.calm (I_sound L it sc sc X t x ρ ρ1 ds gd k1 hi) (ug_of (pins := pins) (tg := tg) fun d ρ ρ' hb => tg_sound gd tg t d ρ ρ' k3 hb) (us_of (pins := pins) (run := a.runs Φ G pins) fun ρ fl ρ' hr => Ss_sound L gd a xs ρ ρ' fl k4 hr) (fun y => fold_of k2 _ y)) (for_reading h)
      · cases h
    · cases ok
  | .ret f, st, ρ, ρ', fl, ok, h => by
    unfold okS at ok
    split at ok
    · rename_i x hs
      obtain ⟨p, rfl⟩ := retE_some hs
      unfold Sm.run at h
      split at h
      · rename_i t ρ1 hf
        cases h
        exact s_ret (F_sound L f sc sc X x ρ _ t gd ok hf)
      · cases h
    · cases ok
  | .retN, st, ρ, ρ', fl, ok, h => by
    unfold okS at ok
    split at ok
    · rename_i hs
      obtain ⟨p, rfl⟩ := retE_some hs
      cases h
      exact s_retN
    · cases ok
  | .brk, st, ρ, ρ', fl, ok, h => by
    have ok : isBrk st = true := ok
    cases h
    cases st <;> first | exact s_brk | cases ok
  | .cont, st, ρ, ρ', fl, ok, h => by
    have ok : isCont st = true := ok
    cases h
    cases st <;> first | exact s_cont | cases ok
  | .pass, st, ρ, ρ', fl, ok, h => by
    have ok : isPass st = true := ok
    cases h
    cases st <;> first | exact s_pass | cases ok
  | .stuck, st, ρ, ρ', fl, ok, h => by cases h
theorem Ss_sound (L : Lk R k c Φ G) (gd : Gd R k c.N sc sc X) : ∀ (ss : Sms) (sts : List Stmt) (ρ ρ' : Rho) (fl : Fl), okSs c sc ss sts = true → ss.runs Φ G pins ρ = some (fl, ρ') → PSs X sts (sJ X.K pins ρ fl ρ')
  | .nil, sts, ρ, ρ', fl, ok, h => by
    cases sts with
    | cons st sts => unfold okSs at ok; cases ok
    | nil => cases h; exact ss_nil
  | .cons s r, sts, ρ, ρ', fl, ok, h => by
    cases sts with
    | nil => unfold okSs at ok; cases ok
    | cons st sts =>
      unfold okSs at ok
      obtain ⟨k1, k2⟩ := Bool.and_eq_true_iff.mp ok
      unfold Sms.runs at h
      split at h
      · rename_i ρ1 hs
        exact ss_cons (S_sound L gd s st ρ ρ1 .nx k1 hs) (Ss_sound L gd r sts ρ1 ρ' fl k2 h)
      · rename_i f1 ρ1 hn hs
        cases h
        refine ss_stop (S_sound L gd s st ρ _ _ k1 hs) ?_
        cases fl with
        | nx => exact (hn rfl).elim
        | bk => rfl
        | ct => rfl
        | rt t => rfl
      · cases h
end
end
end Em

set_option Elab.async false
set_option linter.all false
set_option maxRecDepth 100000
set_option maxHeartbeats 8000000
/-! EmX: a def keeps what the small language says of it. -/
namespace Em
open PySem PySem.Spec PyProof.Rows L2

/-- no exception lies behind a call -/
def CX0 : CXT := fun _ _ _ _ _ _ => False
/-- a def's promise, where nothing is being shown -/
structure FnG (P : Program) (w : World) (K : PySem.W.Frag) (mg : Str → Option Value) (base : Heap) (k : Nat) (f : Addr) (fd : FuncData) (ps : List Str) (sp : List V → Hp → VK → Prop) : Prop where
  len : ∀ vs H Q, sp vs H Q → vs.length = ps.length
  run : ∀ (A : Around) (outer : List Env) (s : Shared) (H : Hp) (args : Args) (us : List Value) (vs : List V) (Q : VK), Room k A → A.guards = some [] → Env0 P w K mg base A outer s H → BindsTo s fd args (ps.zip us) → Vals vs us → sp vs H Q →
    codeAny (model P w) A (.call (.ref f) args) (CR CX0 outer P w H s Q fun _ _ _ => False) s
section
variable {X : Cx} {k : Nat} {f : Addr} {fd : FuncData} {ps : List Str} {sp : List V → Hp → VK → Prop} {x : Str} {p pos : Pos} {es : List Expr} {t : TA}
theorem run_fnG {pins : List (Addr × Obj)} {σ : L2.St} {H : Hp} {s : Shared} {Q : VK} {us : List Value} {vs : List V} (F : FnG X.prog X.w X.K X.mg X.base k f fd ps sp) (hr : Room k X.A) (hg : X.A.guards = some []) (hb : Binds X.K fd ps [])
    (I : Inv X pins σ H s) (r : Vals vs us) (h : sp vs H Q) : wpAny (model X.prog X.w) X.A (call (.ref f) us) (EP X pins σ Q) X.xe s := by
  have hl : us.length = ps.length := by rw [← r.length]; exact F.len _ _ _ h
  have hb2 := hb s us I.kIn (by rw [List.append_nil]; exact hl)
  rw [List.append_nil] at hb2
  refine wpAny_call (codeAny_mono (F.run X.A X.stack s H ⟨us, []⟩ us vs Q hr hg I.env0 hb2 r h) fun r s' hq => ?_)
  cases r with
  | error e => exact False.elim hq
  | ok fl =>
    cases fl with
    | ret u => exact I.after hq
    | _ => exact False.elim hq
theorem pe_callG (F : FnG X.prog X.w X.K X.mg X.base k f fd ps sp) (hr : Room k X.A) (hgu : X.A.guards = some []) (hg : Gl X x) (hm : X.mg x = some (.ref f)) (hk : PySem.W.keepIn X.K (.ref f) = true) (hb : Binds X.K fd ps [])
    (ha : PA X es t) (hn : noStar es = true) (hdb : (x == ("__debug__" : Str)) = false) : PE X (.Call (.Name x p) es [] pos) (fun σ H Q => t σ H fun vs H1 => sp vs H1 Q) := by
  refine ⟨fun pins s σ H Q I h => ?_⟩
  refine wpAny_Call_Name_kw (ld_glob I hg hm ?_ hdb)
  cases es with
  | nil =>
    refine PySem.W.callWith_K0 I.kIn hk ?_
    have q := ha.run pos pins s σ H _ I h
    have q' : wpAny (model X.prog X.w) X.A (pure ([] : List Value) : Sem (List Value)) (AP X pins σ fun vs H1 => sp vs H1 Q) X.xe s := q
    show wpAny (model X.prog X.w) X.A ((pure ([] : List Value) : Sem (List Value)) >>= fun us => call (.ref f) us) (EP X pins σ Q) X.xe s
    exact wpAny_bind (thn q' fun us s1 ⟨vs, H1, I1, r, q2⟩ => run_fnG F hr hgu hb I1 r q2)
  | cons e es =>
    refine PySem.W.callWith_K (h₀ := X.base) I.ok.mod.kin hk (thn (ha.run pos pins s σ H _ I h) fun us s1 ⟨vs, H1, I1, r, q⟩ => ⟨I1.kIn, ?_⟩) (star_cons hn _) (back_none (star_tail hn))
    exact run_fnG F hr hgu hb I1 r q
end
section
variable {P : Program} {w : World} {K : PySem.W.Frag} {mg : Str → Option Value} {base : Heap}
theorem fnG_of {k : Nat} {f : Addr} {name qual : Str} {params : Arguments} {body : List Stmt} {scope : Scope} {dV kV doc pm cdv ct oc : Value} {an od : Option Addr}
    {osl : Array (Option Value)} {N ps : List Str} {sp : List V → Hp → VK → Prop} (lk : K.lookup f = some ⟨oc, od, .func (PySem.W.fnOf name qual params body scope dV kV doc pm an cdv ct), osl⟩) (hcd : PySem.W.codeIn K cdv qual = true) (S : FnScope N ps scope)
    (len : ∀ vs H Q, sp vs H Q → vs.length = ps.length)
    (hbody : ∀ (A : Around) (outer : List Env) (s : Shared) (H : Hp) (vs : List V) (Q : VK), Room k (A.deeper (envOfC qual scope s.heap.objs.size f cdv)) → (A.deeper (envOfC qual scope s.heap.objs.size f cdv)).guards = some [] → sp vs H Q →
      ∃ t, PSs (cxOf CX0 P w K mg base N qual scope f cdv A outer s H fun _ _ _ => False) body t ∧ t { nx := fun _ H' => Q .non H', rt := Q } (L2.start N vs) H) :
    FnG P w K mg base (k + 1) f (PySem.W.fnOf name qual params body scope dV kV doc pm an cdv ct) ps sp := by
  refine ⟨len, fun A outer s H args us vs Q hr hgu e0 hb r hsp => ?_⟩
  have hl := len _ _ _ hsp
  have KX : K.In s.heap := e0.mod.kin.keeps fun b o e => (e0.bs b o e).1
  have lim : s.heap.NoLimit := e0.mod.nolimit.keeps fun b o e => (e0.bs b o e).1
  have hkind : ∀ y ∈ ps.zip us, scope.names.lookup y.1 = some .local ∨ (scope.names.lookup y.1 = some .cell ∧ ((cellsFrom (s.heap.objs.size + 1) scope.names []).lookup y.1).isSome = true) := fun ⟨n, v⟩ hy => by
    rcases S.par n (List.of_mem_zip hy).1 with q | q
    · exact .inl q
    · exact .inr ⟨q, PySem.W.cellsFrom_some _ _ _ (.inl q)⟩
  refine codeAny_call_function hr.depth (KX _ _ lk) rfl S.co S.gen rfl (PySem.W.codeRec_of KX hcd) (hb _ _ _ _ ?_)
  refine wpAny_newFunctionEnv_cells S.kind hkind fun env he s1 x => ?_
  subst he
  refine ⟨lim.keeps x.toInCall.keep, codeAny_func ?_⟩
  obtain ⟨t, ht, hq⟩ := hbody A outer s H vs Q (hr.deeper _) hgu hsp
  have I : Inv (cxOf CX0 P w K mg base N qual scope f cdv A outer s H fun _ _ _ => False) [] (L2.start N vs) H s1 := inv_start S hr.hd e0 hl r x
  refine wpAny_mono (ht.run [] s1 (L2.start N vs) H _ I hq) (fun fl s' hs => ?_) fun e s' hs => hs
  have fin : ∀ {σ' : L2.St} {H' : Hp} {v : V} {u : Value}, Inv (cxOf CX0 P w K mg base N qual scope f cdv A outer s H fun _ _ _ => False) [] σ' H' s' → RelV v u → Q v H' → CE outer P w H s Q u s' :=
    fun {σ' H' v u} J rv q => ⟨v, H', J.os, J.bare, J.base, J.hok, rv, q⟩
  cases fl with
  | ret u =>
    obtain ⟨v, σ', H', J, rv, q⟩ := hs
    exact fin J rv q
  | next =>
    obtain ⟨σ', H', J, q⟩ := hs
    exact fin (v := V.non) (u := Value.none) J rfl q
  | brk =>
    obtain ⟨_, _, _, q⟩ := hs
    exact False.elim q
  | cont =>
    obtain ⟨_, _, _, q⟩ := hs
    exact False.elim q
end

/-! ### the entry and the end of a body -/
section
variable {K : PySem.W.Frag} {C H : Hp}
theorem Sls.ofRps : ∀ {vs : List V} {ts : List T} {fp : List Addr} {n : Nat}, Rps K C H vs ts fp → Sls K C H (vs.map some ++ List.replicate n none) (ts.map some ++ List.replicate n none) fp
  | _, _, _, 0, .nil => .nil
  | _, _, _, n + 1, .nil => Sls.no (Sls.ofRps (vs := []) (ts := []) (n := n) .nil)
  | _, _, _, n, .cons r rs => .yes r (Sls.ofRps rs)
theorem outs_ok : ∀ {args : List T} {vs : List V} {σ : Sg} {ρ : Rho} {own : List Addr} {us : List T} {fp0 : List Addr} {C0 H0 : Hp}, Rps K C0 H0 vs args fp0 → Sub C0 C → Sls K C H σ ρ own → (∀ (j : Nat) ts v, args[j]? = some (.ls ts) → vs[j]? = some v → σ[j]? = some (some v)) → outs args ρ = some us → ∃ fp, Rps K C H vs us fp ∧ fp.Sublist own
  | [], _, σ, ρ, own, us, _, _, _, .nil, hc, S, _, h => by
    have h : some [] = some us := by
      cases ρ <;> exact h
    cases h
    exact ⟨[], .nil, List.nil_sublist _⟩
  | .im d :: r, _, σ, ρ, own, us, _, C0, H0, .cons (v := v) (vs := vs) r0 rs, hc, S, hp, h => by
    cases S with
    | nil => cases h
    | no S =>
      rename_i σ x ρ
      have h : (match outs r ρ with | some us => some (T.im d :: us) | none => none) = some us := h
      cases q : outs r ρ with
      | none => rw [q] at h; cases h
      | some us' =>
        rw [q] at h
        cases h
        obtain ⟨fp, h1, h2⟩ := outs_ok rs hc S (fun j ts v e1 e2 => by simpa using hp (j + 1) ts v (by simpa using e1) (by simpa using e2)) q
        cases r0 with
        | im hi => exact ⟨[] ++ fp, .cons (.im (hi.mono hc)) h1, h2⟩
    | yes r1 S =>
      rename_i v' t' σ ρ f g
      have h : (match outs r ρ with | some us => some (T.im d :: us) | none => none) = some us := h
      cases q : outs r ρ with
      | none => rw [q] at h; cases h
      | some us' =>
        rw [q] at h
        cases h
        obtain ⟨fp, h1, h2⟩ := outs_ok rs hc S (fun j ts v e1 e2 => by simpa using hp (j + 1) ts v (by simpa using e1) (by simpa using e2)) q
        cases r0 with
        | im hi => exact ⟨[] ++ fp, .cons (.im (hi.mono hc)) h1, h2.trans (List.sublist_append_right _ _)⟩
  | .ls ts0 :: r, _, σ, ρ, own, us, _, C0, H0, .cons (v := v) (vs := vs) r0 rs, hc, S, hp, h => by
    cases S with
    | nil => cases h
    | no S => cases h
    | yes r1 S =>
      rename_i v' t' σ ρ f g
      have h : (match outs r ρ with | some us => some (t' :: us) | none => none) = some us := h
      cases q : outs r ρ with
      | none => rw [q] at h; cases h
      | some us' =>
        rw [q] at h
        cases h
        obtain ⟨fp, h1, h2⟩ := outs_ok rs hc S (fun j ts v e1 e2 => by simpa using hp (j + 1) ts v (by simpa using e1) (by simpa using e2)) q
        have hv := hp 0 ts0 v rfl rfl
        have hv : v' = v := Option.some.inj (Option.some.inj hv)
        subst hv
        exact ⟨f ++ fp, .cons r1 h1, List.Sublist.append (List.Sublist.refl _) h2⟩
theorem pinned_mem {pins : List Nat} : ∀ {n : Nat} {args : List T} {j : Nat} {ts : List T}, pinned pins n args = true → args[j]? = some (.ls ts) → n + j ∈ pins
  | n, [], j, ts, _, e => by simp at e
  | n, .im d :: r, 0, ts, _, e => by cases e
  | n, .ls us :: r, 0, ts, h, e => by
    have h := (Bool.and_eq_true_iff.mp h).1
    simpa using h
  | n, .im d :: r, j + 1, ts, h, e => by
    have := pinned_mem (n := n + 1) (args := r) (j := j) h (by simpa using e)
    rw [show n + (j + 1) = n + 1 + j by omega]
    exact this
  | n, .ls us :: r, j + 1, ts, h, e => by
    have := pinned_mem (n := n + 1) (args := r) (j := j) (Bool.and_eq_true_iff.mp h).2 (by simpa using e)
    rw [show n + (j + 1) = n + 1 + j by omega]
    exact this
end
section
variable {R : Env1} {k : Nat} {c : Ck} {Φ : Fns} {G : Nat → Option D} {sc : Scope} {X : Cx}
theorem call_some {fd : Fd} {ts us : List T} {t : T} (h : fd.call Φ G ts = some (t, us)) : ts.length = fd.params ∧ fd.params ≤ fd.slots ∧ pinned fd.pins 0 ts = true ∧ ∃ fl ρ, fd.body.runs Φ G fd.pins (ts.map some ++ List.replicate (fd.slots - fd.params) none) = some (fl, ρ) ∧ outs ts ρ = some us ∧ (fl = .rt t ∨ (fl = .nx ∧ t = .im .non)) := by
  unfold Fd.call at h
  split at h
  · rename_i hc
    refine ⟨hc.1, hc.2.1, hc.2.2, ?_⟩
    split at h
    · rename_i t' ρ hr
      split at h
      · rename_i us' ho
        cases h
        exact ⟨_, _, hr, ho, .inl rfl⟩
      · cases h
    · rename_i ρ hr
      split at h
      · rename_i us' ho
        cases h
        exact ⟨_, _, hr, ho, .inr ⟨rfl, rfl⟩⟩
      · cases h
    · cases h
  · cases h
/-- the body, from its entry to its end -/
theorem body_ok (L : Lk R k c Φ G) (gd : Gd R k c.N sc sc X) {fd : Fd} {body : List Stmt} {Φ' : Fns} {g : Nat} (hΦ : ∀ ts, Φ' g ts = fd.call Φ G ts) (hs : fd.slots = c.N.length) (ok : okSs c sc fd.body body = true) {vs : List V} {H : Hp} {Q : VK} (h : Ctr Φ' g X.K vs H Q) :
    ∃ t, PSs X body t ∧ t { nx := fun _ H' => Q .non H', rt := Q } (L2.start c.N vs) H := by
  obtain ⟨L0, ts, fp, t, us, r, nd, hL, hr, q⟩ := h
  rw [hΦ] at hr
  obtain ⟨h1, h2, h3, fl, ρ, h4, h5, h6⟩ := call_some hr
  have hvl : vs.length = ts.length := r.len
  refine ⟨_, Ss_sound L gd fd.body body _ ρ fl ok h4, ?_⟩
  have hst : L2.start c.N vs = vs.map some ++ List.replicate (fd.slots - fd.params) none := by
    unfold L2.start
    rw [hs, ← h1, hvl]
  rw [hst]
  have S : Sl X.K L0 (cutl fp H) fp H (vs.map some ++ List.replicate (fd.slots - fd.params) none) (ts.map some ++ List.replicate (fd.slots - fd.params) none) :=
    ⟨Sls.ofRps r, nd, cut_sub, fun a ha => cutl_in ha, fun a ha => by
      obtain ⟨n, o, e⟩ := hL a ha
      exact ⟨o, by rw [cutl_out n]; exact e⟩⟩
  -- the end, from the group of the value
  have fin : ∀ (H' : Hp) (own' : List Addr) (σ' : Sg) (v : V) (fv : List Addr), Gst X.K L0 (cutl fp H) fp H σ' true ρ H' own' [v] [t] fv → Away (fun j => j ∈ fd.pins) (vs.map some ++ List.replicate (fd.slots - fd.params) none) σ' → Q v H' := fun H' own' σ' v fv P w => by
    have hcl : Sub (cutl (fp ++ L0) H) (cutl (own' ++ (fv ++ L0)) H') := P.cl
    obtain ⟨fp', r', sl⟩ := outs_ok (K := X.K) (C := cutl (own' ++ (fv ++ L0)) H') (H := H') r hcl P.sl.rel (fun j us' v' e1 e2 => by
      rw [w.2 j (by simpa using pinned_mem h3 e1)]
      rw [List.getElem?_append_left (by simpa using (List.getElem?_eq_some_iff.mp e2).1), List.getElem?_map, e2]; rfl) h5
    have mem : ∀ a ∈ fp', a ∈ own' := fun a ha => sl.subset ha
    have hC : Sub (cutl (own' ++ (fv ++ L0)) H') (cutl ((fv ++ fp') ++ L0) H') := cutl_sub fun a ha => by
      simp only [List.mem_append] at ha ⊢
      rcases ha with (z | z) | z
      · exact .inr (.inl z)
      · exact .inl (mem a z)
      · exact .inr (.inr z)
    obtain ⟨f2, e2, rv⟩ : ∃ f2, fv = f2 ++ [] ∧ Rp X.K (cutl (own' ++ (fv ++ L0)) H') H' v t f2 := by
      have rp := P.rp
      cases rp with
      | cons a b => cases b; exact ⟨_, rfl, a⟩
    rw [List.append_nil] at e2
    subst e2
    refine q v H' fv fp' (.cons (rv.mono hC fun _ _ _ q => q) (r'.mono hC fun _ _ _ q => q)) (rv.mono hC fun _ _ _ q => q) (r'.mono hC fun _ _ _ q => q) ?_ (fun a ha => ?_) P.fr
    · rw [List.nodup_append]
      exact ⟨P.nd, P.sl.nod.sublist sl, fun a ha b hb z => P.notown (.inl ha) (by rw [z]; exact mem b hb)⟩
    · rcases ha with ha | ha
      · exact P.new a ha
      · exact P.sub a (mem a ha)
  refine ⟨L0, cutl fp H, fp, S, ?_⟩
  rcases h6 with rfl | ⟨rfl, rfl⟩
  · exact fun H' own' σ' v fv P w => fin H' own' σ' v fv P w
  · exact fun H' own' σ' P => fin H' own' σ' .non [] ⟨P.sl.self, Rps.one (.im .non), List.nodup_nil, fun _ h => absurd h List.not_mem_nil, P.sub, P.cl, fun z => (nomatch z), P.sl.frame⟩ P.aw
end
end Em

set_option Elab.async false
set_option linter.all false
set_option maxRecDepth 100000
set_option maxHeartbeats 8000000
/-! EmY: a text of defs, all of them at once; the law's end. -/
namespace Em
open PySem PySem.Spec PyProof.Rows L2

inductive Cst where | int (i : Int) | str (z : Str)
def Cst.d : Cst → D
  | .int i => .int i
  | .str z => .str z.cps.toList
/-- one def of the text, and what the small language says of it -/
structure Dfn (ck : List Str → Ck) where
  d : He.DefD
  N : List Str
  ps : List Str
  fd : Fd
  at_ : d.at_ = (d.name, none)
  S : FnScope N ps d.scope
  ok : okSs (ck N) d.scope fd.body d.body = true
  slots : fd.slots = N.length
  params : fd.params = ps.length
  bnd : ∀ (K : PySem.W.Frag) (f : Addr) (fdata : FuncData), FunD K d.name d.qual d.params d.body d.scope (d.dvs K) (d.kws K) f fdata → Binds K fdata ps []
  db : (d.name == ("__debug__" : Str)) = false
def ckOf (bi : List Str) (cs : List (Str × Cst)) (names : List Str) (N : List Str) : Ck := ⟨bi, N, fun g => (cs[g]?).map (·.1), fun g => names[g]?⟩
def gOf (cs : List (Str × Cst)) (g : Nat) : Option D := (cs[g]?).map fun c => c.2.d
/-- the facts that the head is asked for -/
def faOf (bi : List Str) (cs : List (Str × Cst)) (names : List Str) : List He.Fa := names.map .glo ++ (bi.map .free ++ cs.map fun c => match c.2 with
  | .int i => .int c.1 i
  | .str z => .str c.1 z)
section
variable {bi : List Str} {cs : List (Str × Cst)} {names : List Str}
/-- the whole text -/
structure Txt (bi : List Str) (cs : List (Str × Cst)) (names : List Str) where
  ds : List (Dfn (ckOf bi cs names))
  nm : ds.map (fun x => x.d.name) = names
  cdb : ∀ c ∈ cs, (c.1 == ("__debug__" : Str)) = false
def Txt.fds (T : Txt bi cs names) (g : Nat) : Option Fd := (T.ds[g]?).map (·.fd)
theorem Txt.mem (T : Txt bi cs names) {y : Str} (h : y ∈ T.ds.map (fun x => x.d.name)) : y ∈ names := by
  rw [← T.nm]; exact h
def Txt.sem (T : Txt bi cs names) (n : Nat) : Fns := Em.sem (gOf cs) T.fds n
variable {P : Program} {w : World} {K : PySem.W.Frag} {mg : Str → Option Value} {h : Heap}
theorem Txt.all (T : Txt bi cs names) (X : K.In h) (G : h.Ns mainGlobals mg) (c : He.SaysD (faOf bi cs names) (T.ds.map (·.d)) K) (base : Heap) :
    ∀ (n g : Nat) (x : Dfn (ckOf bi cs names)) (fdata : FuncData), T.ds[g]? = some x → FunD K x.d.name x.d.qual x.d.params x.d.body x.d.scope (x.d.dvs K) (x.d.kws K) (He.ga K x.d.name) fdata → FnG P w K mg base n (He.ga K x.d.name) fdata x.ps (Ctr (T.sem n) g K)
  | 0, g, x, fdata, hx, F => by
    refine ⟨fun vs H Q q => ?_, fun A outer s H args us vs Q _ _ _ _ _ q => ?_⟩
    · obtain ⟨_, _, _, _, _, _, _, _, e, _⟩ := q
      cases e
    · obtain ⟨_, _, _, _, _, _, _, _, e, _⟩ := q
      cases e
  | n + 1, g, x, fdata, hx, F => by
    have ih := Txt.all T X G c base n
    have hsem : ∀ ts, T.sem (n + 1) g ts = x.fd.call (T.sem n) (gOf cs) ts := fun ts => by
      unfold Txt.sem Em.sem Txt.fds
      rw [hx]; rfl
    have hfree : ∀ y ∈ bi, mg y = none := fun y hy => He.free_ok X G (c.facts (by
      unfold faOf
      simp only [List.mem_append, List.mem_map]
      exact .inr (.inl ⟨y, hy, rfl⟩)))
    obtain ⟨oc, od, dV, kV, doc, pm, an, cdv, ct, osl, rfl, lk, hcd, _, _⟩ := F.ex
    refine fnG_of lk hcd x.S (fun vs H Q q => ?_) fun A outer s H vs Q hr hgu q => ?_
    · obtain ⟨_, ts, _, _, _, r, _, _, e, _⟩ := q
      rw [hsem] at e
      rw [r.len, (call_some e).1, x.params]
    · let R : Env1 := ⟨P, w, K, mg, base, bi, hfree⟩
      have L : Lk R n (ckOf bi cs names x.N) (T.sem n) (gOf cs) := by
        refine ⟨rfl, fun g y d h1 h2 N sc raw X' p gd hl => ?_, fun g y h1 N sc raw X' gd hl es pos p t hn ha => ?_⟩
        · have h1 : (cs[g]?).map (·.1) = some y := h1
          have h2 : (cs[g]?).map (fun c => c.2.d) = some d := h2
          cases hc : cs[g]? with
          | none => rw [hc] at h1; cases h1
          | some q =>
            rw [hc] at h1 h2
            cases h1
            cases h2
            have hm : q ∈ cs := List.mem_of_getElem? hc
            have hf := fun (f : He.Fa) (hf : f ∈ faOf bi cs names) => c.facts hf
            obtain ⟨y, cst⟩ := q
            have hdb := T.cdb _ hm
            cases cst with
            | int i =>
              obtain ⟨t, e⟩ := He.int_ok X G (x := y) (i := i) (hf (.int y i) (by
                unfold faOf
                simp only [List.mem_append, List.mem_map]
                exact .inr (.inr ⟨_, hm, rfl⟩)))
              exact ⟨.int i, pe_glob (gd.gl hl) (by rw [gd.mm]; exact e) ⟨t, rfl⟩ hdb, fun H => .int i⟩
            | str z =>
              obtain ⟨t, e⟩ := He.str_ok X G (x := y) (z := z) (hf (.str y z) (by
                unfold faOf
                simp only [List.mem_append, List.mem_map]
                exact .inr (.inr ⟨_, hm, rfl⟩)))
              exact ⟨.str z, pe_glob (gd.gl hl) (by rw [gd.mm]; exact e) ⟨t, rfl⟩ hdb, fun H => Is.str _⟩
        · have h1 : names[g]? = some y := h1
          rw [← T.nm, List.getElem?_map] at h1
          cases hd : T.ds[g]? with
          | none => rw [hd] at h1; cases h1
          | some x' =>
            rw [hd] at h1
            cases h1
            have hm : x' ∈ T.ds := List.mem_of_getElem? hd
            obtain ⟨fd', F'⟩ := c.defs (d := x'.d) (List.mem_map.mpr ⟨x', hm, rfl⟩)
            have ea : He.fAd K x'.d.at_ = He.ga K x'.d.name := by rw [x'.at_]; rfl
            rw [ea] at F'
            have hg := He.glo_ok X G (c.facts (f := .glo x'.d.name) (by
              unfold faOf
              simp only [List.mem_append, List.mem_map]
              exact .inl ⟨x'.d.name, T.mem (List.mem_map.mpr ⟨x', hm, rfl⟩), rfl⟩))
            have FG := ih g x' fd' hd F'
            have hX : FnG X'.prog X'.w X'.K X'.mg X'.base n (He.ga K x'.d.name) fd' x'.ps (Ctr (T.sem n) g X'.K) := by
              rw [gd.pr, gd.ww, gd.kk, gd.mm, gd.bb]
              exact FG
            exact pe_callG hX gd.room gd.gua (gd.gl hl) (by rw [gd.mm]; exact hg) (by rw [gd.kk]; exact F'.kp) (by rw [gd.kk]; exact x'.bnd K _ _ F') ha hn x'.db
      have gd : Gd R n x.N x.d.scope x.d.scope (cxOf CX0 P w K mg base x.N x.d.qual x.d.scope (He.ga K x.d.name) cdv A outer s H fun _ _ _ => False).nox :=
        ⟨rfl, rfl, rfl, rfl, rfl, rfl, rfl, x.S.nd, rfl, rfl, hr, hgu, fun y hy => ⟨hy, .inl rfl⟩⟩
      obtain ⟨t, h1, h2⟩ := body_ok (c := ckOf bi cs names x.N) L gd hsem x.slots x.ok q
      exact ⟨t, h1.nox, h2⟩
end
/-- the end of a law: what is tracked at the law's call is the script at most -/
theorem fin_call {P : Program} {w : World} {K : PySem.W.Frag} {mg mb : Str → Option Value} {k : Nat} {fa a : Addr} {fd : FuncData} {x : Str} {sp : List V → Hp → VK → Prop} {s : Shared} {H : Hp}
    (KX : K.In s.heap) (hns : s.heap.Ns mainGlobals mg) (hb : s.heap.Ns builtinsNs mb) (hbb : ∀ x : Str, x ≠ "__name__" → mb x = bootBuiltins x) (hlim : s.heap.NoLimit) (hg : s.gens = #[]) (hr : Room k callerA)
    (F : ∀ base : Heap, FnG P w K mg base k fa fd [x] sp) (bind : ∀ (s : Shared) (u : Value), BindsTo s fd ⟨[u], []⟩ [(x, u)])
    (hseq : ∃ vs n, s.heap.get? a = some { cls := .type "list", data := .seq vs n }) (only : ∀ b u, H b = some u → b = a ∧ K.lookup a = none ∧ ∃ o xs, u = .frz o (.lst xs)) (hok : HOk P w H s.heap) (q : sp [.ref a] H fun v _ => v = .bl true) :
    codeAny (model P w) callerA (.call (.ref fa) ⟨[.ref a], []⟩) (fun r t => r = .ok (.ret (.bool true)) ∧ OldK s.heap t.heap ∧ t.os = s.os ∧ AllBare t.gens) s := by
  have none_of : ∀ {b : Addr}, (b = a → K.lookup a = none → False) → H b = none := fun {b} h => by
    cases e : H b with
    | none => rfl
    | some u =>
      obtain ⟨e1, e2, _⟩ := only b u e
      exact (h e1 e2).elim
  obtain ⟨its, m, hobj⟩ := hseq
  have nsb : ∀ {b : Addr} {f : Str → Option Value}, s.heap.Ns b f → (hidT s.heap H).Ns b f := fun {b f} z => by
    obtain ⟨o, es, ep, e1, e2, r⟩ := z
    refine ⟨o, es, ep, hidT_get e1 (none_of fun z _ => ?_), e2, r⟩
    rw [z, hobj] at e1
    cases e1
    cases e2
  have kb : K.In (hidT s.heap H) := fun b o e => hidT_get (KX b o e) (none_of fun z1 z2 => by
    rw [z1, z2] at e; cases e)
  have md : Mod K mg (hidT s.heap H) := by
    obtain ⟨f, l1, l2⟩ := hlim
    exact ⟨kb, nsb hns, ⟨mb, nsb hb, hbb⟩, ⟨f, nsb l1, l2⟩⟩
  have env : Env0 P w K mg (hidT s.heap H) callerA [] s H := by
    refine ⟨rfl, md, fun b o e => of_hidT e, Nat.le_of_eq (hidT_size _ _), trivial, fun b z => ?_, hok, .of_eq hg⟩
    exact absurd (show b ∈ ([] : List Addr) from z) List.not_mem_nil
  refine codeAny_mono ((F (hidT s.heap H)).run callerA [] s H ⟨[.ref a], []⟩ [.ref a] [.ref a] _ hr rfl env (bind s (.ref a)) (.cons rfl .nil) q) fun r t e => ?_
  match r, e with
  | .error _, e => exact False.elim e
  | .ok .next, e => exact False.elim e
  | .ok .brk, e => exact False.elim e
  | .ok .cont, e => exact False.elim e
  | .ok (.ret u), e =>
    obtain ⟨v, H2, e1, e2, un, hok2, rv, (ev : v = .bl true)⟩ := e
    subst ev
    obtain rfl : u = Value.bool true := rv
    refine ⟨rfl, OldK.of_keep fun b o eb => ?_, e1, e2⟩
    cases hb : H b with
    | none => exact un.keep b o eb hb (fun z => absurd (show b ∈ ([] : List Addr) from z) List.not_mem_nil) List.not_mem_nil
    | some u =>
      obtain ⟨_, _, ob, xs, rfl⟩ := only b u hb
      have z1 := (hok b _ hb).1
      have z2 := (hok2 b _ (un.frzs b ob _ hb)).1
      rw [eb] at z1
      cases z1
      exact z2
theorem script_call {P : Program} {w : World} {K : PySem.W.Frag} {mg mb : Str → Option Value} {k : Nat} {fa a : Addr} {fd : FuncData} {x : Str} {sp : List V → Hp → VK → Prop} {s : Shared} {vs : List Value} {ns : List Int}
    (KX : K.In s.heap) (hns : s.heap.Ns mainGlobals mg) (hb : s.heap.Ns builtinsNs mb) (hbb : ∀ x : Str, x ≠ "__name__" → mb x = bootBuiltins x) (hlim : s.heap.NoLimit) (hg : s.gens = #[]) (hr : Room k callerA)
    (F : ∀ base : Heap, FnG P w K mg base k fa fd [x] sp) (bind : ∀ (s : Shared) (u : Value), BindsTo s fd ⟨[u], []⟩ [(x, u)])
    (hobj : s.heap.get? a = some { cls := .type "list", data := .seq vs.toArray }) (hi : IntsAre vs ns) (hl : ns.length ≤ sizeLine) (hn : K.lookup a = none)
    (q : ∀ H : Hp, Rd H a (.lst (ns.map V.int)) → sp [.ref a] H fun v _ => v = .bl true) :
    codeAny (model P w) callerA (.call (.ref fa) ⟨[.ref a], []⟩) (fun r t => r = .ok (.ret (.bool true)) ∧ OldK s.heap t.heap ∧ t.os = s.os ∧ AllBare t.gens) s := by
  let H : Hp := fun b => if b = a then some (.frz { cls := .type "list", data := .seq vs.toArray } (.lst (ns.map V.int))) else none
  have at_ : H a = some (.frz { cls := .type "list", data := .seq vs.toArray } (.lst (ns.map V.int))) := if_pos rfl
  have un : ∀ b u, H b = some u → b = a ∧ u = .frz { cls := .type "list", data := .seq vs.toArray } (.lst (ns.map V.int)) := fun b u e => by
    by_cases z : b = a
    · rw [z, at_] at e
      exact ⟨z, (Option.some.inj e).symm⟩
    · rw [show H b = none from if_neg z] at e
      cases e
  refine fin_call (H := H) KX hns hb hbb hlim hg hr F bind ⟨_, _, hobj⟩ (fun b u e => ?_) (fun b u e => ?_) (q H (.inr ⟨_, at_⟩))
  · obtain ⟨e1, e2⟩ := un b u e
    exact ⟨e1, hn, _, _, e2⟩
  · obtain ⟨e1, e2⟩ := un b u e
    subst e1
    subst e2
    exact ⟨hobj, by rw [List.length_map]; exact hl, vs, _, vals_ints hi, hobj⟩
/-- no list of the written part could be the script -/
def noScript (K : PySem.W.Frag) : Bool := K.all fun p => match p.2.data with
  | .seq its _ => (match p.2.cls with
    | .type "list" => (match its[0]? with
      | some (Value.int _ _) => false
      | some _ => true
      | none => false)
    | _ => true)
  | _ => true
theorem noScript_of {K : PySem.W.Frag} {h : Heap} {a : Addr} {vs : List Value} {ns : List Int} (c : noScript K = true) (X : K.In h) (e : h.get? a = some { cls := .type "list", data := .seq vs.toArray }) (i : IntsAre vs ns) : K.lookup a = none := by
  cases hk : K.lookup a with
  | none => rfl
  | some o =>
    have e1 := X a o hk
    rw [e] at e1
    have e1 := Option.some.inj e1
    have m := List.all_eq_true.mp c (a, o) (He.lookup_mem hk)
    subst e1
    cases i with
    | nil => simp at m
    | cons n t r => simp at m
theorem Ctr.of {Φ : Fns} {g : Nat} {K : PySem.W.Frag} {H : Hp} {a : Addr} {ns : List Int} {us : List T} (h : Rd H a (.lst (ns.map V.int))) (e : Φ g [.im (.lst (ns.map D.int))] = some (.im (.bl true), us)) : Ctr Φ g K [.ref a] H fun v _ => v = .bl true := by
  refine ⟨[], [.im (.lst (ns.map D.int))], [], .im (.bl true), us, Rps.one (.im (.lst (rd_sub (fun b o q => by show cutl [] H b = some o; rw [cutl_out List.not_mem_nil]; exact q) h) (Iss.int_map ns))), List.nodup_nil, fun b hb => absurd hb List.not_mem_nil, e, fun v H' f fp' _ r _ _ _ _ => ?_⟩
  cases r with
  | im i => exact i.bl_v
section
variable {bi : List Str} {cs : List (Str × Cst)} {names : List Str}
/-- THE END: a law of such a text -/
theorem Txt.walk (T : Txt bi cs names) {l : PySem.W.OpenLaw} {n k g : Nat} {q : Program} {loose : List Str} {XP : (Str → Option Value) → Heap → Prop} {YP : World → Heap → Prop} {d : DefRec} {K : Params → PySem.W.Frag} {x : Str}
    (hn : l.most = some n) (hn2 : n ≤ sizeLine) (hdf : d.params.defaults = []) (hr : Room k callerA) (hY : ∀ (w : World) (h : Heap), YP w h → (K w.params).In h)
    (c : ∀ w : World, He.SaysD (faOf bi cs names) (T.ds.map (·.d)) (K w.params)) (ns : ∀ w : World, noScript (K w.params) = true) {dn : Dfn (ckOf bi cs names)} (hg : T.ds[g]? = some dn) (hd : dn.d.name = d.name) (hps : dn.ps = [x])
    (hbd : ∀ (K : PySem.W.Frag) (f : Addr) (fdata : FuncData), FunD K dn.d.name dn.d.qual dn.d.params dn.d.body dn.d.scope (dn.d.dvs K) (dn.d.kws K) f fdata → ∀ (s : Shared) (u : Value), BindsTo s fdata ⟨[u], []⟩ [(x, u)])
    (true_ : ∀ is : List Int, is.length ≤ n → ∃ us, T.sem k g [.im (.lst (is.map D.int))] = some (.im (.bl true), us)) :
    PySem.W.WalkO q loose XP YP l.row.toRowW d [] (fun f vs => PySem.call f vs) := by
  refine Att.attach_call hn hdf fun w s₀ s₁ mg mb fa o pm cd doc a vs is G Y ho hdat hcd hmg hobj hints hlen hgens => ?_
  have KX := hY w _ Y
  have hm : dn ∈ T.ds := List.mem_of_getElem? hg
  obtain ⟨fdata, F⟩ := (c w).defs (d := dn.d) (List.mem_map.mpr ⟨dn, hm, rfl⟩)
  have ea : He.fAd (K w.params) dn.d.at_ = He.ga (K w.params) dn.d.name := by rw [dn.at_]; rfl
  rw [ea] at F
  have hglo := He.glo_ok KX G.T.g ((c w).facts (f := .glo dn.d.name) (by
    unfold faOf
    simp only [List.mem_append, List.mem_map]
    exact .inl ⟨dn.d.name, T.mem (List.mem_map.mpr ⟨dn, hm, rfl⟩), rfl⟩))
  rw [hd, hmg] at hglo
  cases hglo
  obtain ⟨us, e⟩ := true_ is hlen
  refine script_call (k := k) (fd := fdata) (x := x) (sp := Ctr (T.sem k) g (K w.params)) KX G.T.g G.T.b G.T.builtins G.T.nolimit hgens hr (fun base => ?_) (hbd _ _ _ F) hobj hints (Nat.le_trans hlen hn2) (noScript_of (ns w) KX hobj hints) fun H hH => Ctr.of hH e
  have := T.all (P := l.prog) (w := w) KX G.T.g (c w) base k g dn fdata hg F
  rw [hps, hd] at this
  exact this
end
end Em

set_option Elab.async false
set_option linter.all false
set_option maxRecDepth 100000
set_option maxHeartbeats 4000000
/-! EmPl: how what the small language computes is shown: statements, loops, blocks by what holds behind them. -/
namespace Em
open PySem PySem.Spec PyProof.Rows L2

section
variable {Φ : Fns} {G : Nat → Option D} {pins : List Nat}
/-- a statement's run ends, so -/
@[irreducible] def WP (r : Option (Fl × Rho)) (Q : Fl → Rho → Prop) : Prop := match r with
  | some (f, ρ) => Q f ρ
  | none => False
@[simp] theorem wp_some {f : Fl} {ρ : Rho} {Q : Fl → Rho → Prop} : WP (some (f, ρ)) Q = Q f ρ := by unfold WP; rfl
@[simp] theorem wp_none {Q : Fl → Rho → Prop} : WP none Q = False := by unfold WP; rfl
@[irreducible] def Wx {α : Type} (r : Option (α × Rho)) (P : α → Rho → Prop) : Prop := match r with
  | some (a, ρ) => P a ρ
  | none => False
@[simp] theorem wx_some {α : Type} {a : α} {ρ : Rho} {P : α → Rho → Prop} : Wx (some (a, ρ)) P = P a ρ := by unfold Wx; rfl
@[simp] theorem wx_none {α : Type} {P : α → Rho → Prop} : Wx none P = False := by unfold Wx; rfl
theorem wx_ex {α : Type} {r : Option (α × Rho)} {P : α → Rho → Prop} : Wx r P ↔ ∃ a ρ, r = some (a, ρ) ∧ P a ρ := by
  cases r with
  | none => rw [wx_none]; exact ⟨fun h => h.elim, fun ⟨_, _, e, _⟩ => by cases e⟩
  | some p => obtain ⟨a, ρ⟩ := p; rw [wx_some]; exact ⟨fun h => ⟨_, _, rfl, h⟩, fun ⟨_, _, e, h⟩ => by cases e; exact h⟩
theorem wp_ex {r : Option (Fl × Rho)} {P : Fl → Rho → Prop} : WP r P ↔ ∃ a ρ, r = some (a, ρ) ∧ P a ρ := by
  cases r with
  | none => rw [wp_none]; exact ⟨fun h => h.elim, fun ⟨_, _, e, _⟩ => by cases e⟩
  | some p => obtain ⟨a, ρ⟩ := p; rw [wp_some]; exact ⟨fun h => ⟨_, _, rfl, h⟩, fun ⟨_, _, e, h⟩ => by cases e; exact h⟩
@[irreducible] def Wo {α : Type} (r : Option α) (P : α → Prop) : Prop := match r with
  | some a => P a
  | none => False
@[simp] theorem wo_some {α : Type} {a : α} {P : α → Prop} : Wo (some a) P = P a := by unfold Wo; rfl
@[simp] theorem wo_none {α : Type} {P : α → Prop} : Wo none P = False := by unfold Wo; rfl
theorem wo_ex {α : Type} {r : Option α} {P : α → Prop} : Wo r P ↔ ∃ a, r = some a ∧ P a := by
  cases r with
  | none => rw [wo_none]; exact ⟨fun h => h.elim, fun ⟨_, e, _⟩ => by cases e⟩
  | some p => rw [wo_some]; exact ⟨fun h => ⟨_, rfl, h⟩, fun ⟨_, e, h⟩ => by cases e; exact h⟩
theorem WP.mono {r : Option (Fl × Rho)} {Q Q' : Fl → Rho → Prop} (h : WP r Q) (m : ∀ f ρ, Q f ρ → Q' f ρ) : WP r Q' := by
  obtain ⟨a, ρ, e, h1⟩ := wp_ex.mp h
  exact wp_ex.mpr ⟨a, ρ, e, m _ _ h1⟩
/-- what is asked behind a statement, ahead of the others -/
def Kon (Φ : Fns) (G : Nat → Option D) (pins : List Nat) (r : Sms) (Q : Fl → Rho → Prop) : Fl → Rho → Prop
  | .nx, ρ => WP (r.runs Φ G pins ρ) Q
  | .bk, ρ => Q .bk ρ
  | .ct, ρ => Q .ct ρ
  | .rt t, ρ => Q (.rt t) ρ
section
variable {r : Sms} {Q K : Fl → Rho → Prop} {ρ : Rho} {t : T}
@[simp] theorem kon_nx : Kon Φ G pins r Q .nx ρ = WP (r.runs Φ G pins ρ) Q := rfl
@[simp] theorem kon_bk : Kon Φ G pins r Q .bk ρ = Q .bk ρ := rfl
@[simp] theorem kon_ct : Kon Φ G pins r Q .ct ρ = Q .ct ρ := rfl
@[simp] theorem kon_rt : Kon Φ G pins r Q (.rt t) ρ = Q (.rt t) ρ := rfl
theorem wp_cons {s : Sm} : WP ((Sms.cons s r).runs Φ G pins ρ) Q ↔ WP (s.run Φ G pins ρ) (Kon Φ G pins r Q) := by
  rw [Sms.runs]
  cases s.run Φ G pins ρ with
  | none => simp only [wp_none]
  | some p => obtain ⟨f, ρ1⟩ := p; cases f <;> simp only [wp_some] <;> exact Iff.rfl
@[simp] theorem wp_nil : WP ((Sms.nil).runs Φ G pins ρ) Q = Q .nx ρ := by
  rw [Sms.runs, wp_some]
/-- what is asked behind a turn -/
def Lp (I : Rho → Prop) (K : Fl → Rho → Prop) : Fl → Rho → Prop
  | .nx, ρ => I ρ
  | .ct, ρ => I ρ
  | .bk, ρ => K .nx ρ
  | .rt t, ρ => K (.rt t) ρ
@[simp] theorem lp_nx {I : Rho → Prop} : Lp I K .nx ρ = I ρ := rfl
@[simp] theorem lp_ct {I : Rho → Prop} : Lp I K .ct ρ = I ρ := rfl
@[simp] theorem lp_bk {I : Rho → Prop} : Lp I K .bk ρ = K .nx ρ := rfl
@[simp] theorem lp_rt {I : Rho → Prop} : Lp I K (.rt t) ρ = K (.rt t) ρ := rfl

theorem wp_ite {c : Ex} {a b : Sms} (h : Wx (c.evB Φ G ρ) fun v ρ1 => (v = true → WP (a.runs Φ G pins ρ1) K) ∧ (v = false → WP (b.runs Φ G pins ρ1) K)) : WP ((Sm.ite c a b).run Φ G pins ρ) K := by
  obtain ⟨v, ρ1, e, h1, h2⟩ := wx_ex.mp h
  rw [Sm.run, e]
  cases v
  · exact h2 rfl
  · exact h1 rfl
theorem forL_inv {body : D → Rho → Option (Fl × Rho)} (I : Nat → Rho → Prop) : ∀ (ds : List D) (n : Nat) (ρ : Rho), I n ρ →
    (∀ i d ρ, ds[i]? = some d → I (n + i) ρ → WP (body d ρ) (Lp (I (n + i + 1)) K)) → (∀ ρ, I (n + ds.length) ρ → K .nx ρ) → WP (forL body ds ρ) K
  | [], n, ρ, h0, _, he => by unfold forL; rw [wp_some]; exact he ρ h0
  | d :: ds, n, ρ, h0, hs, he => by
    have h1 := hs 0 d ρ rfl h0
    unfold forL
    cases e : body d ρ with
    | none => rw [e, wp_none] at h1; exact h1.elim
    | some p =>
      obtain ⟨f, ρ1⟩ := p
      rw [e, wp_some] at h1
      have k1 : ∀ i d ρ, ds[i]? = some d → I (n + 1 + i) ρ → WP (body d ρ) (Lp (I (n + 1 + i + 1)) K) := fun i d' ρ' hd hi => by
        have := hs (i + 1) d' ρ' (by simpa using hd) (by rw [show n + (i + 1) = n + 1 + i by omega]; exact hi)
        rw [show n + (i + 1) + 1 = n + 1 + i + 1 by omega] at this
        exact this
      have k2 : ∀ ρ, I (n + 1 + ds.length) ρ → K .nx ρ := fun ρ' hi => he ρ' (by
        rw [show n + (d :: ds).length = n + 1 + ds.length by simp; omega]; exact hi)
      cases f with
      | nx => exact forL_inv I ds (n + 1) ρ1 h1 k1 k2
      | ct => exact forL_inv I ds (n + 1) ρ1 h1 k1 k2
      | bk => simp only [wp_some]; exact h1
      | rt t => simp only [wp_some]; exact h1
theorem wp_for {tg : Tg} {it : It} {b : Sms} {ds : List D} {ρ1 : Rho} (I : Nat → Rho → Prop) (h : it.evi Φ G ρ = some (ds, ρ1)) (h0 : I 0 ρ1)
    (hs : ∀ i d ρ, ds[i]? = some d → I i ρ → Wo (tg.bind pins d ρ) fun ρ2 => WP (b.runs Φ G pins ρ2) (Lp (I (i + 1)) K)) (he : ∀ ρ, I ds.length ρ → K .nx ρ) : WP ((Sm.for_ tg it b).run Φ G pins ρ) K := by
  rw [Sm.run, h]
  refine forL_inv I ds 0 ρ1 h0 (fun i d ρ hd hi => ?_) (fun ρ hi => he ρ (by simpa using hi))
  have := hs i d ρ hd (by simpa using hi)
  obtain ⟨ρ2, e, h2⟩ := wo_ex.mp this
  rw [e, Nat.zero_add]; exact h2
theorem whileL_inv {test : Rho → Option (Bool × Rho)} {body : Rho → Option (Fl × Rho)} (I : Nat → Rho → Prop)
    (hs : ∀ n ρ, I n ρ → Wx (test ρ) fun v ρ1 => (v = true → 0 < n ∧ WP (body ρ1) (Lp (fun ρ2 => ∃ m, m < n ∧ I m ρ2) K)) ∧ (v = false → K .nx ρ1)) : ∀ (w n : Nat) (ρ : Rho), n < w → I n ρ → WP (whileL test body w ρ) K
  | 0, n, ρ, h, _ => absurd h (Nat.not_lt_zero _)
  | w + 1, n, ρ, h, hi => by
    obtain ⟨v, ρ1, e, h1, h2⟩ := wx_ex.mp (hs n ρ hi)
    unfold whileL
    rw [e]
    cases v with
    | false => rw [wp_some]; exact h2 rfl
    | true =>
      obtain ⟨hn, h3⟩ := h1 rfl
      simp only
      cases e2 : body ρ1 with
      | none => rw [e2, wp_none] at h3; exact h3.elim
      | some p =>
        obtain ⟨f, ρ2⟩ := p
        rw [e2, wp_some] at h3
        cases f with
        | nx => obtain ⟨m, hm, h4⟩ := h3; exact whileL_inv I hs w m ρ2 (by omega) h4
        | ct => obtain ⟨m, hm, h4⟩ := h3; exact whileL_inv I hs w m ρ2 (by omega) h4
        | bk => simp only [wp_some]; exact h3
        | rt t => simp only [wp_some]; exact h3
theorem wp_while {c : Ex} {b : Sms} (I : Nat → Rho → Prop) {n : Nat} (hn : n < 1000000) (h0 : I n ρ)
    (hs : ∀ n ρ, I n ρ → Wx (c.evB Φ G ρ) fun v ρ1 => (v = true → 0 < n ∧ WP (b.runs Φ G pins ρ1) (Lp (fun ρ2 => ∃ m, m < n ∧ I m ρ2) K)) ∧ (v = false → K .nx ρ1)) : WP ((Sm.whil c b).run Φ G pins ρ) K := by
  rw [Sm.run]
  exact whileL_inv I hs W n ρ hn h0
end

/-! ### comprehensions -/
section
variable {turn : D → Rho → Option (Option T × Rho)}
theorem compL_map {g : D → Option T} {ρ : Rho} : ∀ {ds : List D}, (∀ d ∈ ds, turn d ρ = some (g d, ρ)) → compL turn ds ρ = some (ds.filterMap g, ρ)
  | [], _ => rfl
  | d :: ds, h => by
    unfold compL
    rw [h d List.mem_cons_self]
    simp only
    rw [compL_map fun d hd => h d (List.mem_cons_of_mem _ hd)]
    cases e : g d with
    | none => simp [List.filterMap_cons, e]
    | some t => simp [List.filterMap_cons, e]
theorem compL_inv (I : Nat → List T → Rho → Prop) : ∀ (ds : List D) (n : Nat) (us : List T) (ρ : Rho), I n us ρ →
    (∀ i d us ρ, ds[i]? = some d → I (n + i) us ρ → Wx (turn d ρ) fun o ρ' => I (n + i + 1) (us ++ o.toList) ρ') → ∃ ts ρ', compL turn ds ρ = some (ts, ρ') ∧ I (n + ds.length) (us ++ ts) ρ'
  | [], n, us, ρ, h, _ => ⟨[], ρ, rfl, by simpa using h⟩
  | d :: ds, n, us, ρ, h, hs => by
    obtain ⟨o, ρ1, e, h1⟩ := wx_ex.mp (hs 0 d us ρ rfl h)
    obtain ⟨ts, ρ2, e2, h2⟩ := compL_inv I ds (n + 1) (us ++ o.toList) ρ1 h1 fun i d' us' ρ' hd hi => by
      have := hs (i + 1) d' us' ρ' (by simpa using hd) (by rw [show n + (i + 1) = n + 1 + i by omega]; exact hi)
      rw [show n + (i + 1) + 1 = n + 1 + i + 1 by omega] at this
      exact this
    have e3 : n + (d :: ds).length = n + 1 + ds.length := by simp; omega
    cases o with
    | some t =>
      refine ⟨t :: ts, ρ2, ?_, by rw [e3]; simpa using h2⟩
      unfold compL
      rw [e]
      simp only
      rw [e2]
    | none =>
      refine ⟨ts, ρ2, ?_, by rw [e3]; simpa using h2⟩
      unfold compL
      rw [e]
      simp only
      rw [e2]
end
section
variable {vs : List Nat} {tg : Tg} {it : It} {f : Fx} {c : Ex} {ρ ρ1 : Rho} {ds : List D}
theorem comp_ok (g : D → T) (h : it.evi Φ G ρ = some (ds, ρ1)) (hp : plain vs ρ1 = true) (hl : ds.length ≤ LIM)
    (ht : ∀ d ∈ ds, Wo (tg.bind [] d (wipeR ρ1 vs)) fun ρ2 => Wx (f.evf Φ G ρ2) fun u ρ3 => u = g d ∧ wipeR ρ3 vs = wipeR ρ1 vs) (hr : restore vs ρ1 (wipeR ρ1 vs) = ρ1) :
    (Fx.comp vs tg it f).evf Φ G ρ = some (.ls (ds.map g), ρ1) := by
  rw [Fx.evf, h]
  simp only [hp, hl, decide_true, Bool.and_self, if_true]
  rw [compL_map (g := fun d => some (g d)) fun d hd => ?_]
  · simp only [List.filterMap_eq_map', hr]
  · have := ht d hd
    cases e : tg.bind [] d (wipeR ρ1 vs) with
    | none => rw [e, wo_none] at this; exact this.elim
    | some ρ2 =>
      rw [e, wo_some] at this
      obtain ⟨u, ρ3, e2, h1, h2⟩ := wx_ex.mp this
      simp only
      rw [e2]
      simp only [h1, h2]
theorem compIf_ok (p : D → Bool) (g : D → T) (h : it.evi Φ G ρ = some (ds, ρ1)) (hp : plain vs ρ1 = true) (hl : ds.length ≤ LIM)
    (ht : ∀ d ∈ ds, Wo (tg.bind [] d (wipeR ρ1 vs)) fun ρ2 => Wx (c.evB Φ G ρ2) fun v ρ3 => v = p d ∧ wipeR ρ3 vs = wipeR ρ1 vs ∧ (v = true → Wx (f.evf Φ G ρ3) fun u ρ4 => u = g d ∧ wipeR ρ4 vs = wipeR ρ1 vs)) (hr : restore vs ρ1 (wipeR ρ1 vs) = ρ1) :
    (Fx.compIf vs tg it c f).evf Φ G ρ = some (.ls ((ds.filter p).map g), ρ1) := by
  rw [Fx.evf, h]
  simp only [hp, hl, decide_true, Bool.and_self, if_true]
  rw [compL_map (g := fun d => if p d = true then some (g d) else none) fun d hd => ?_]
  · simp only [hr, Option.some.injEq, Prod.mk.injEq, T.ls.injEq, and_true]
    clear ht hl h
    induction ds with
    | nil => rfl
    | cons d ds ih =>
      cases e : p d <;> simp [List.filterMap_cons, List.filter_cons, e, ih]
  · have := ht d hd
    cases e : tg.bind [] d (wipeR ρ1 vs) with
    | none => rw [e, wo_none] at this; exact this.elim
    | some ρ2 =>
      rw [e, wo_some] at this
      obtain ⟨v, ρ3, e2, h1, h2, h3⟩ := wx_ex.mp this
      have e2' := e2
      unfold Ex.evB at e2'
      simp only
      cases ev : c.ev Φ G ρ2 with
      | none => rw [ev] at e2'; cases e2'
      | some q =>
        obtain ⟨t, ρ'⟩ := q
        rw [ev] at e2'
        cases t with
        | ls _ => cases e2'
        | im d' =>
          cases d' <;> try (cases e2')
          cases v with
          | true =>
            obtain ⟨u, ρ4, e3, h4, h5⟩ := wx_ex.mp (h3 rfl)
            simp only [e3, ← h1, if_true, h4, h5]
          | false => simp only [← h1, Bool.false_eq_true, if_false, h2]
theorem compm_ok {β : Type} {xs : List β} {hh : β → D} (g : β → T) (h : it.evi Φ G ρ = some (xs.map hh, ρ1)) (hp : plain vs ρ1 = true) (hl : xs.length ≤ 1000000)
    (ht : ∀ x ∈ xs, Wo (tg.bind [] (hh x) (wipeR ρ1 vs)) fun ρ2 => Wx (f.evf Φ G ρ2) fun u ρ3 => u = g x ∧ wipeR ρ3 vs = wipeR ρ1 vs) (hr : restore vs ρ1 (wipeR ρ1 vs) = ρ1) :
    (Fx.comp vs tg it f).evf Φ G ρ = some (.ls (xs.map g), ρ1) := by
  have hl2 : (xs.map hh).length ≤ LIM := by rw [List.length_map]; exact hl
  rw [Fx.evf, h]
  simp only [hp, hl2, decide_true, Bool.and_self, if_true]
  have : ∀ ys : List β, (∀ x ∈ ys, x ∈ xs) → compL (fun d ρ => match tg.bind [] d ρ with
            | some ρ2 => match f.evf Φ G ρ2 with
              | some (u, ρ4) => some (some u, wipeR ρ4 vs)
              | none => none
            | none => none) (ys.map hh) (wipeR ρ1 vs) = some (ys.map g, wipeR ρ1 vs) := by
    intro ys
    induction ys with
    | nil => intro _; rfl
    | cons y ys ih =>
      intro hy
      obtain ⟨ρ2, e1, h1⟩ := wo_ex.mp (ht y (hy y List.mem_cons_self))
      obtain ⟨u, ρ3, e2, h2, h3⟩ := wx_ex.mp h1
      rw [List.map_cons, compL]
      simp only [e1, e2, h3]
      rw [ih fun x hx => hy x (List.mem_cons_of_mem _ hx)]
      simp only [h2, List.map_cons]
  have e := this xs fun _ h => h
  refine (congrArg (fun (z : Option (List T × Rho)) => (match z with
    | some (ts, ρ5) => some (T.ls ts, restore vs ρ1 ρ5)
    | none => none : Option (T × Rho))) e).trans ?_
  simp only [hr]
theorem compIfm_ok {β : Type} {xs : List β} {hh : β → D} (p : β → Bool) (g : β → T) (h : it.evi Φ G ρ = some (xs.map hh, ρ1)) (hp : plain vs ρ1 = true) (hl : xs.length ≤ 1000000)
    (ht : ∀ x ∈ xs, Wo (tg.bind [] (hh x) (wipeR ρ1 vs)) fun ρ2 => Wx (c.evB Φ G ρ2) fun v ρ3 => v = p x ∧ wipeR ρ3 vs = wipeR ρ1 vs ∧ (v = true → Wx (f.evf Φ G ρ3) fun u ρ4 => u = g x ∧ wipeR ρ4 vs = wipeR ρ1 vs)) (hr : restore vs ρ1 (wipeR ρ1 vs) = ρ1) :
    (Fx.compIf vs tg it c f).evf Φ G ρ = some (.ls ((xs.filter p).map g), ρ1) := by
  have hl2 : (xs.map hh).length ≤ LIM := by rw [List.length_map]; exact hl
  rw [Fx.evf, h]
  simp only [hp, hl2, decide_true, Bool.and_self, if_true]
  have : ∀ ys : List β, (∀ x ∈ ys, x ∈ xs) → compL (fun d ρ => match tg.bind [] d ρ with
            | some ρ2 => match c.ev Φ G ρ2 with
              | some (.im (.bl true), ρ3) => match f.evf Φ G ρ3 with
                | some (u, ρ4) => some (some u, wipeR ρ4 vs)
                | none => none
              | some (.im (.bl false), ρ3) => some (none, wipeR ρ3 vs)
              | _ => none
            | none => none) (ys.map hh) (wipeR ρ1 vs) = some ((ys.filter p).map g, wipeR ρ1 vs) := by
    intro ys
    induction ys with
    | nil => intro _; rfl
    | cons y ys ih =>
      intro hy
      have ih := ih fun x hx => hy x (List.mem_cons_of_mem _ hx)
      obtain ⟨ρ2, e1, h1⟩ := wo_ex.mp (ht y (hy y List.mem_cons_self))
      obtain ⟨v, ρ3, e2, h2, h3, h4⟩ := wx_ex.mp h1
      have e2' : c.ev Φ G ρ2 = some (.im (.bl v), ρ3) := by
        unfold Ex.evB at e2
        cases ev : c.ev Φ G ρ2 with
        | none => rw [ev] at e2; cases e2
        | some q =>
          obtain ⟨t, ρ'⟩ := q
          rw [ev] at e2
          cases t with
          | ls _ => cases e2
          | im d' => cases d' <;> first | (cases e2; rfl) | (cases e2)
      rw [List.map_cons, compL, List.filter_cons, ← h2]
      cases v with
      | true =>
        obtain ⟨u, ρ4, e3, h5, h6⟩ := wx_ex.mp (h4 rfl)
        simp only [e1, e2', e3, h6]
        rw [ih]
        simp only [h5, List.map_cons, if_true]
      | false =>
        simp only [e1, e2', h3]
        rw [ih]
        simp only [Bool.false_eq_true, if_false]
  have e := this xs fun _ h => h
  refine (congrArg (fun (z : Option (List T × Rho)) => (match z with
    | some (ts, ρ5) => some (T.ls ts, restore vs ρ1 ρ5)
    | none => none : Option (T × Rho))) e).trans ?_
  simp only [hr]
/-- .. whose turns change what is lent -/
theorem comp_inv (I : Nat → List T → Rho → Prop) (h : it.evi Φ G ρ = some (ds, ρ1)) (hp : plain vs ρ1 = true) (hl : ds.length ≤ LIM) (h0 : I 0 [] (wipeR ρ1 vs))
    (hs : ∀ i d us ρ, ds[i]? = some d → I i us ρ → Wo (tg.bind [] d ρ) fun ρ2 => Wx (f.evf Φ G ρ2) fun u ρ3 => I (i + 1) (us ++ [u]) (wipeR ρ3 vs)) :
    ∃ ts ρ5, (Fx.comp vs tg it f).evf Φ G ρ = some (.ls ts, restore vs ρ1 ρ5) ∧ I ds.length ts ρ5 := by
  obtain ⟨ts, ρ5, e, h1⟩ := compL_inv (turn := fun d ρ => match tg.bind [] d ρ with
            | some ρ2 => match f.evf Φ G ρ2 with
              | some (u, ρ4) => some (some u, wipeR ρ4 vs)
              | none => none
            | none => none) I ds 0 [] (wipeR ρ1 vs) h0 fun i d us ρ hd hi => by
    have := hs i d us ρ hd (by simpa using hi)
    cases e : tg.bind [] d ρ with
    | none => rw [e, wo_none] at this; exact this.elim
    | some ρ2 =>
      rw [e, wo_some] at this
      obtain ⟨u, ρ3, e2, h1⟩ := wx_ex.mp this
      simp only
      rw [e2]
      simpa using h1
  refine ⟨ts, ρ5, ?_, by simpa using h1⟩
  rw [Fx.evf, h]
  simp only [hp, hl, decide_true, Bool.and_self, if_true]
  exact congrArg (fun (z : Option (List T × Rho)) => (match z with
    | some (ts, ρ5) => some (T.ls ts, restore vs ρ1 ρ5)
    | none => none : Option (T × Rho))) e
end

/-! ### calls -/
/-- what a def gives back -/
def Ret (args : List T) (P : T → List T → Prop) : Fl → Rho → Prop
  | .rt t, ρ => Wo (outs args ρ) fun us => P t us
  | .nx, ρ => Wo (outs args ρ) fun us => P (.im .non) us
  | _, _ => False
@[simp] theorem ret_rt {args : List T} {P : T → List T → Prop} {t : T} {ρ : Rho} : Ret args P (.rt t) ρ = Wo (outs args ρ) fun us => P t us := rfl
@[simp] theorem ret_nx {args : List T} {P : T → List T → Prop} {ρ : Rho} : Ret args P .nx ρ = Wo (outs args ρ) fun us => P (.im .non) us := rfl
theorem fd_ok {fd : Fd} {args : List T} {P : T → List T → Prop} (h1 : args.length = fd.params ∧ fd.params ≤ fd.slots ∧ pinned fd.pins 0 args = true)
    (h : WP (fd.body.runs Φ G fd.pins (args.map some ++ List.replicate (fd.slots - fd.params) none)) (Ret args P)) : ∃ t us, fd.call Φ G args = some (t, us) ∧ P t us := by
  unfold Fd.call
  rw [if_pos h1]
  cases e : fd.body.runs Φ G fd.pins (args.map some ++ List.replicate (fd.slots - fd.params) none) with
  | none => rw [e, wp_none] at h; exact h.elim
  | some p =>
    obtain ⟨f, ρ⟩ := p
    rw [e, wp_some] at h
    cases f with
    | bk => exact h.elim
    | ct => exact h.elim
    | rt t =>
      have h : Wo (outs args ρ) fun us => P t us := h
      cases eo : outs args ρ with
      | none => rw [eo, wo_none] at h; exact h.elim
      | some us => rw [eo, wo_some] at h; exact ⟨t, us, by simp only [eo], h⟩
    | nx =>
      have h : Wo (outs args ρ) fun us => P (.im .non) us := h
      cases eo : outs args ρ with
      | none => rw [eo, wo_none] at h; exact h.elim
      | some us => rw [eo, wo_some] at h; exact ⟨_, us, by simp only [eo], h⟩
theorem sem_ok {tbl : Nat → Option Fd} {n g : Nat} {fd : Fd} {args : List T} {P : T → List T → Prop} (hg : tbl g = some fd) (h1 : args.length = fd.params ∧ fd.params ≤ fd.slots ∧ pinned fd.pins 0 args = true)
    (h : WP (fd.body.runs (sem G tbl n) G fd.pins (args.map some ++ List.replicate (fd.slots - fd.params) none)) (Ret args P)) : ∃ t us, sem G tbl (n + 1) g args = some (t, us) ∧ P t us := by
  obtain ⟨t, us, e, hp⟩ := fd_ok h1 h
  refine ⟨t, us, ?_, hp⟩
  rw [sem, hg]
  exact e
theorem sem_eq {tbl : Nat → Option Fd} {n g : Nat} {fd : Fd} {args : List T} {t : T} {us : List T} (hg : tbl g = some fd) (h1 : args.length = fd.params ∧ fd.params ≤ fd.slots ∧ pinned fd.pins 0 args = true)
    (h : WP (fd.body.runs (sem G tbl n) G fd.pins (args.map some ++ List.replicate (fd.slots - fd.params) none)) (Ret args fun t' us' => t' = t ∧ us' = us)) : sem G tbl (n + 1) g args = some (t, us) := by
  obtain ⟨t', us', e, rfl, rfl⟩ := sem_ok hg h1 h
  exact e
end
end Em

set_option Elab.async false
set_option linter.all false
set_option maxRecDepth 100000
set_option maxHeartbeats 4000000
/-! EmPs: what the small language computes, constructor by constructor, for simp. -/
namespace Em
open PySem PySem.Spec PyProof.Rows L2

section
variable {Φ : Fns} {G : Nat → Option D} {pins : List Nat} {ρ : Rho}
@[simp] theorem ev_var {i : Nat} : Ex.ev Φ G (.var i) ρ = (match ρ[i]? with
  | some (some t) => some (t, ρ)
  | _ => none) := by rw [Ex.ev] <;> rfl
@[simp] theorem ev_frz {i : Nat} : Ex.ev Φ G (.frz i) ρ = (match ρ[i]? with
  | some (some t) => some (.im t.view, ρ.set i (some (.im t.view)))
  | _ => none) := by rw [Ex.ev] <;> rfl
@[simp] theorem ev_lit {d : D} : Ex.ev Φ G (.lit d) ρ = some (.im d, ρ) := by rw [Ex.ev]
@[simp] theorem ev_glob {g : Nat} : Ex.ev Φ G (.glob g) ρ = (match G g with
  | some d => some (.im d, ρ)
  | none => none) := by rw [Ex.ev] <;> rfl
@[simp] theorem ev_op {o : Op} {es : Exs} : Ex.ev Φ G (.op o es) ρ = (match es.evs Φ G ρ with
  | some (ts, ρ1) => (match o.run ts with
    | some t => some (t, ρ1)
    | none => none)
  | none => none) := by rw [Ex.ev] <;> rfl
@[simp] theorem ev_and {es : Exs} : Ex.ev Φ G (.and_ es) ρ = (match es.evAnd Φ G ρ with
  | some (b, ρ1) => some (.im (.bl b), ρ1)
  | none => none) := by rw [Ex.ev] <;> rfl
@[simp] theorem ev_or {es : Exs} : Ex.ev Φ G (.or_ es) ρ = (match es.evOr Φ G ρ with
  | some (b, ρ1) => some (.im (.bl b), ρ1)
  | none => none) := by rw [Ex.ev] <;> rfl
@[simp] theorem ev_not {e : Ex} : Ex.ev Φ G (.not_ e) ρ = (match e.ev Φ G ρ with
  | some (.im (.bl b), ρ1) => some (.im (.bl (!b)), ρ1)
  | _ => none) := by rw [Ex.ev] <;> rfl
@[simp] theorem ev_lele {a b c : Ex} : Ex.ev Φ G (.lele a b c) ρ = (match a.ev Φ G ρ with
  | some (.im (.int i), ρ1) => (match b.ev Φ G ρ1 with
    | some (.im (.int j), ρ2) => if i ≤ j then (match c.ev Φ G ρ2 with
      | some (.im (.int l), ρ3) => some (.im (.bl (decide (j ≤ l))), ρ3)
      | _ => none) else some (.im (.bl false), ρ2)
    | _ => none)
  | _ => none) := by rw [Ex.ev] <;> rfl
@[simp] theorem ev_ite {c a b : Ex} : Ex.ev Φ G (.ite c a b) ρ = (match c.ev Φ G ρ with
  | some (.im (.bl v), ρ1) => if v = true then a.ev Φ G ρ1 else b.ev Φ G ρ1
  | _ => none) := by
  rw [Ex.ev]
  cases c.ev Φ G ρ with
  | none => rfl
  | some p =>
    obtain ⟨t, ρ1⟩ := p
    cases t with
    | ls _ => rfl
    | im d => cases d <;> first | rfl | (rename_i v; cases v <;> rfl)
@[simp] theorem ev_pop {i : Nat} : Ex.ev Φ G (.pop i) ρ = (match ρ[i]? with
  | some (some (.ls ts)) => (match ts[ts.length - 1]? with
    | some (.im d) => some (.im d, ρ.set i (some (.ls ts.dropLast)))
    | _ => none)
  | _ => none) := by rw [Ex.ev] <;> rfl
@[simp] theorem ev_fr {f : Fx} : Ex.ev Φ G (.fr f) ρ = (match f.evf Φ G ρ with
  | some (t, ρ1) => some (.im t.view, ρ1)
  | none => none) := by rw [Ex.ev] <;> rfl
@[simp] theorem evs_nil : Exs.evs Φ G .nil ρ = some ([], ρ) := by rw [Exs.evs]
@[simp] theorem evs_cons {e : Ex} {es : Exs} : Exs.evs Φ G (.cons e es) ρ = (match e.ev Φ G ρ with
  | some (t, ρ1) => (match es.evs Φ G ρ1 with
    | some (ts, ρ2) => if es.mut && !t.isIm then none else some (t :: ts, ρ2)
    | none => none)
  | none => none) := by rw [Exs.evs] <;> rfl
@[simp] theorem evAnd_one {e : Ex} : Exs.evAnd Φ G (.cons e .nil) ρ = (match e.ev Φ G ρ with
  | some (.im (.bl b), ρ1) => some (b, ρ1)
  | _ => none) := by rw [Exs.evAnd] <;> rfl
@[simp] theorem evAnd_two {e e2 : Ex} {es : Exs} : Exs.evAnd Φ G (.cons e (.cons e2 es)) ρ = (match e.ev Φ G ρ with
  | some (.im (.bl v), ρ1) => if v = true then (Exs.cons e2 es).evAnd Φ G ρ1 else some (false, ρ1)
  | _ => none) := by
  rw [Exs.evAnd]
  cases e.ev Φ G ρ with
  | none => rfl
  | some p =>
    obtain ⟨t, ρ1⟩ := p
    cases t with
    | ls _ => rfl
    | im d => cases d <;> first | rfl | (rename_i v; cases v <;> rfl)
@[simp] theorem evOr_one {e : Ex} : Exs.evOr Φ G (.cons e .nil) ρ = (match e.ev Φ G ρ with
  | some (.im (.bl b), ρ1) => some (b, ρ1)
  | _ => none) := by rw [Exs.evOr] <;> rfl
@[simp] theorem evOr_two {e e2 : Ex} {es : Exs} : Exs.evOr Φ G (.cons e (.cons e2 es)) ρ = (match e.ev Φ G ρ with
  | some (.im (.bl v), ρ1) => if v = true then some (true, ρ1) else (Exs.cons e2 es).evOr Φ G ρ1
  | _ => none) := by
  rw [Exs.evOr]
  cases e.ev Φ G ρ with
  | none => rfl
  | some p =>
    obtain ⟨t, ρ1⟩ := p
    cases t with
    | ls _ => rfl
    | im d => cases d <;> first | rfl | (rename_i v; cases v <;> rfl)
@[simp] theorem eva_nil : Ags.eva Φ G .nil ρ = some ([], ρ) := by rw [Ags.eva]
@[simp] theorem eva_fx {f : Fx} {r : Ags} : Ags.eva Φ G (.fx f r) ρ = (match f.evf Φ G ρ with
  | some (t, ρ1) => (match r.eva Φ G ρ1 with
    | some (as, ρ2) => some (.v t :: as, ρ2)
    | none => none)
  | none => none) := by rw [Ags.eva] <;> rfl
@[simp] theorem eva_ref {i : Nat} {r : Ags} : Ags.eva Φ G (.ref i r) ρ = (match ρ[i]? with
  | some (some _) => (match r.eva Φ G ρ with
    | some (as, ρ2) => some (.r i :: as, ρ2)
    | none => none)
  | _ => none) := by rw [Ags.eva] <;> rfl
@[simp] theorem evf_ex {e : Ex} : Fx.evf Φ G (.ex e) ρ = (match e.ev Φ G ρ with
  | some (.im d, ρ1) => some (.im d, ρ1)
  | _ => none) := by rw [Fx.evf] <;> rfl
@[simp] theorem evf_disp {es : Exs} : Fx.evf Φ G (.disp es) ρ = (match es.evs Φ G ρ with
  | some (ts, ρ1) => (match imsOf ts with
    | some _ => if ts.length ≤ LIM then some (.ls ts, ρ1) else none
    | none => none)
  | none => none) := by rw [Fx.evf] <;> rfl
@[simp] theorem evf_rep {e n : Ex} : Fx.evf Φ G (.rep e n) ρ = (match e.ev Φ G ρ with
  | some (.im d, ρ1) => (match n.ev Φ G ρ1 with
    | some (.im (.int k), ρ2) => if -1000000 ≤ k ∧ k ≤ 1000000 then some (.ls (List.replicate k.toNat (.im d)), ρ2) else none
    | _ => none)
  | _ => none) := by
  have e : ∀ k : Int, (k ≤ LIM ∧ -LIM ≤ k) = (-1000000 ≤ k ∧ k ≤ 1000000) := fun k => by unfold LIM; exact propext ⟨fun h => ⟨h.2, h.1⟩, fun h => ⟨h.2, h.1⟩⟩
  rw [Fx.evf]
  simp only [e]
  try rfl
@[simp] theorem evf_list {e : Ex} : Fx.evf Φ G (.list e) ρ = (match e.ev Φ G ρ with
  | some (t, ρ1) => (match t.walk with
    | some ds => if ds.length ≤ LIM then some (.ls (ds.map .im), ρ1) else none
    | none => none)
  | none => none) := by rw [Fx.evf] <;> rfl
@[simp] theorem evf_call {g : Nat} {as : Ags} : Fx.evf Φ G (.call g as) ρ = (match as.eva Φ G ρ with
  | some (ars, ρ1) => (match arVals ρ1 ars with
    | some (ts, ρ3) => (match Φ g ts with
      | some (t, us) => (match arBack ρ3 ars us with
        | some ρ2 => some (t, ρ2)
        | none => none)
      | none => none)
    | none => none)
  | none => none) := by rw [Fx.evf] <;> rfl
@[simp] theorem evi_ex {e : Ex} : It.evi Φ G (.ex e) ρ = (match e.ev Φ G ρ with
  | some (.im d, ρ1) => (match (T.im d).walk with
    | some ds => some (ds, ρ1)
    | none => none)
  | _ => none) := by rw [It.evi] <;> rfl
@[simp] theorem evi_rng1 {a : Ex} : It.evi Φ G (.rng1 a) ρ = (match a.ev Φ G ρ with
  | some (.im (.int n), ρ1) => (match rng2 0 n with
    | some ds => some (ds, ρ1)
    | none => none)
  | _ => none) := by rw [It.evi] <;> rfl
@[simp] theorem evi_rng2 {a b : Ex} : It.evi Φ G (.rng2 a b) ρ = (match a.ev Φ G ρ with
  | some (.im (.int m), ρ1) => (match b.ev Φ G ρ1 with
    | some (.im (.int n), ρ2) => (match rng2 m n with
      | some ds => some (ds, ρ2)
      | none => none)
    | _ => none)
  | _ => none) := by rw [It.evi] <;> rfl
@[simp] theorem evi_rng3 {a b c : Ex} : It.evi Φ G (.rng3 a b c) ρ = (match a.ev Φ G ρ with
  | some (.im (.int m), ρ1) => (match b.ev Φ G ρ1 with
    | some (.im (.int n), ρ2) => (match c.ev Φ G ρ2 with
      | some (.im (.int k), ρ3) => (match rng3 m n k with
        | some ds => some (ds, ρ3)
        | none => none)
      | _ => none)
    | _ => none)
  | _ => none) := by rw [It.evi] <;> rfl
@[simp] theorem evi_enum {e : Ex} : It.evi Φ G (.enum e) ρ = (match e.ev Φ G ρ with
  | some (.im (.lst ds), ρ1) => some (enumD 0 ds, ρ1)
  | _ => none) := by rw [It.evi] <;> rfl
@[simp] theorem evi_zip {a b : Ex} : It.evi Φ G (.zip a b) ρ = (match a.ev Φ G ρ with
  | some (.im d, ρ1) => (match b.ev Φ G ρ1 with
    | some (.im e, ρ2) => (match sqD d, sqD e with
      | some (_, ds), some (_, es) => some (zipD ds es, ρ2)
      | _, _ => none)
    | _ => none)
  | _ => none) := by rw [It.evi] <;> rfl
@[simp] theorem evB_eq {e : Ex} : Ex.evB Φ G e ρ = (match e.ev Φ G ρ with
  | some (.im (.bl b), ρ1) => some (b, ρ1)
  | _ => none) := rfl
@[simp] theorem evp_nil : Prs.evp Φ G .nil ρ = some ([], ρ) := rfl
@[simp] theorem evp_cons {i : Nat} {f : Fx} {r : Prs} : Prs.evp Φ G (.cons i f r) ρ = (match f.evf Φ G ρ with
  | some (t, ρ1) => (match r.evp Φ G ρ1 with
    | some (ts, ρ2) => some (t :: ts, ρ2)
    | none => none)
  | none => none) := rfl
@[simp] theorem ixs_nil : Prs.ixs .nil = [] := rfl
@[simp] theorem ixs_cons {i : Nat} {f : Fx} {r : Prs} : Prs.ixs (.cons i f r) = i :: r.ixs := rfl
@[simp] theorem binds_nil : binds pins [] [] ρ = some ρ := rfl
@[simp] theorem binds_cons {i : Nat} {is : List Nat} {t : T} {ts : List T} : binds pins (i :: is) (t :: ts) ρ = (match bind1 pins i t ρ with
  | some ρ1 => binds pins is ts ρ1
  | none => none) := rfl
@[simp] theorem bind1_eq {i : Nat} {t : T} : bind1 pins i t ρ = if i < ρ.length ∧ i ∉ pins then some (ρ.set i (some t)) else none := rfl
@[simp] theorem tgb_nm {i : Nat} {d : D} : Tg.bind pins (.nm i) d ρ = bind1 pins i (.im d) ρ := rfl
@[simp] theorem tgb_tp {l : Tg} {ds : List D} : Tg.bind pins (.tp l) (.tup ds) ρ = l.bind pins (.lst ds) ρ := rfl
@[simp] theorem tgb_nil : Tg.bind pins .nil (.lst []) ρ = some ρ := rfl
@[simp] theorem tgb_cons {t r : Tg} {d : D} {ds : List D} : Tg.bind pins (.cons t r) (.lst (d :: ds)) ρ = (match t.bind pins d ρ with
  | some ρ1 => r.bind pins (.lst ds) ρ1
  | none => none) := rfl

@[simp] theorem ite_pair {α : Type} {c : Prop} [Decidable c] {x y : α} {r : Rho} : (if c then some (x, r) else some (y, r)) = some ((if c then x else y), r) := by split <;> rfl
@[simp] theorem ite_bl {c : Prop} [Decidable c] {x y : Bool} : (if c then T.im (.bl x) else T.im (.bl y)) = T.im (.bl (if c then x else y)) := by split <;> rfl
@[simp] theorem ite_int {c : Prop} [Decidable c] {x y : Int} : (if c then T.im (.int x) else T.im (.int y)) = T.im (.int (if c then x else y)) := by split <;> rfl
@[simp] theorem ite_im {c : Prop} [Decidable c] {x y : D} : (if c then T.im x else T.im y) = T.im (if c then x else y) := by split <;> rfl
/-! ### statements -/
@[simp] theorem run_asg {i : Nat} {f : Fx} : Sm.run Φ G pins (.asg i f) ρ = (match f.evf Φ G ρ with
  | some (t, ρ1) => (match bind1 pins i t ρ1 with
    | some ρ2 => some (.nx, ρ2)
    | none => none)
  | none => none) := by rw [Sm.run] <;> rfl
@[simp] theorem run_par {p : Prs} : Sm.run Φ G pins (.par p) ρ = (match p.evp Φ G ρ with
  | some (ts, ρ1) => (match binds pins p.ixs ts ρ1 with
    | some ρ2 => some (.nx, ρ2)
    | none => none)
  | none => none) := by rw [Sm.run] <;> rfl
@[simp] theorem run_unp {tg : Tg} {e : Ex} : Sm.run Φ G pins (.unp tg e) ρ = (match e.ev Φ G ρ with
  | some (.im d, ρ1) => (match tg.bind pins d ρ1 with
    | some ρ2 => some (.nx, ρ2)
    | none => none)
  | _ => none) := by rw [Sm.run] <;> rfl
@[simp] theorem run_app {i : Nat} {p : Exs} {f : Fx} : Sm.run Φ G pins (.app i p f) ρ = (match p.evs Φ G ρ with
  | some (ks, ρ1) => (match natsOf ks with
    | some q => (match f.evf Φ G ρ1 with
      | some (u, ρ2) => (match chg i q (fun ts => if ts.length < LIM then some (ts ++ [u]) else none) ρ2 with
        | some ρ3 => if has i ρ && (isLs i q ρ1 && (q.isEmpty || !f.mut)) then some (.nx, ρ3) else none
        | none => none)
      | none => none)
    | none => none)
  | none => none) := by rw [Sm.run] <;> rfl
@[simp] theorem run_ext {i : Nat} {p : Exs} {e : Ex} : Sm.run Φ G pins (.ext i p e) ρ = (match p.evs Φ G ρ with
  | some (ks, ρ1) => (match natsOf ks with
    | some q => (match e.ev Φ G ρ1 with
      | some (.im d, ρ2) => (match (T.im d).seq? with
        | some ds => (match chg i q (fun ts => if ts.length + ds.length ≤ LIM then some (ts ++ ds.map .im) else none) ρ2 with
          | some ρ3 => if has i ρ && (isLs i q ρ1 && (q.isEmpty || !e.mut)) then some (.nx, ρ3) else none
          | none => none)
        | none => none)
      | _ => none)
    | none => none)
  | none => none) := by rw [Sm.run] <;> rfl
@[simp] theorem run_set {i : Nat} {p : Exs} {k e : Ex} : Sm.run Φ G pins (.set i p k e) ρ = (match e.ev Φ G ρ with
  | some (.im d, ρ1) => (match p.evs Φ G ρ1 with
    | some (ks, ρ2) => (match natsOf ks with
      | some q => (match k.ev Φ G ρ2 with
        | some (.im (.int j), ρ3) => (match chg i q (fun ts => match ixN ts.length j with
            | some m => some (ts.set m (.im d))
            | none => none) ρ3 with
          | some ρ4 => if has i ρ1 && (isLs i q ρ2 && (q.isEmpty || !k.mut)) then some (.nx, ρ4) else none
          | none => none)
        | _ => none)
      | none => none)
    | none => none)
  | _ => none) := by rw [Sm.run] <;> rfl
@[simp] theorem run_expr {e : Ex} : Sm.run Φ G pins (.expr e) ρ = (match e.ev Φ G ρ with
  | some (_, ρ1) => some (.nx, ρ1)
  | none => none) := by rw [Sm.run] <;> rfl
@[simp] theorem run_ret {f : Fx} : Sm.run Φ G pins (.ret f) ρ = (match f.evf Φ G ρ with
  | some (t, ρ1) => some (.rt t, ρ1)
  | none => none) := by rw [Sm.run] <;> rfl
@[simp] theorem run_retN : Sm.run Φ G pins .retN ρ = some (.rt (.im .non), ρ) := by rw [Sm.run]
@[simp] theorem run_brk : Sm.run Φ G pins .brk ρ = some (.bk, ρ) := by rw [Sm.run]
@[simp] theorem run_cont : Sm.run Φ G pins .cont ρ = some (.ct, ρ) := by rw [Sm.run]
@[simp] theorem run_pass : Sm.run Φ G pins .pass ρ = some (.nx, ρ) := by rw [Sm.run]
@[simp] theorem chg_eq {i : Nat} {p : List Nat} {f : List T → Option (List T)} : chg i p f ρ = (match ρ[i]? with
  | some (some t) => (match t.at p with
    | some (.ls ts) => (match f ts with
      | some us => some (ρ.set i (some (t.setAt p (.ls us))))
      | none => none)
    | _ => none)
  | _ => none) := rfl
@[simp] theorem has_eq {i : Nat} : has i ρ = (match ρ[i]? with
  | some (some _) => true
  | _ => false) := rfl
@[simp] theorem isLs_eq {i : Nat} {p : List Nat} : isLs i p ρ = (match ρ[i]? with
  | some (some t) => (match t.at p with
    | some (.ls _) => true
    | _ => false)
  | _ => false) := rfl
@[simp] theorem plain_nil : plain [] ρ = true := rfl
@[simp] theorem plain_cons {v : Nat} {vs : List Nat} : plain (v :: vs) ρ = ((match ρ[v]? with
  | some (some (.ls _)) => false
  | some _ => true
  | none => false) && plain vs ρ) := rfl
end

@[simp] theorem mut_var {i : Nat} : Ex.mut (.var i) = false := by first | rfl | (rw [Ex.mut] <;> rfl) | rw [Ex.mut]
@[simp] theorem mut_frz {i : Nat} : Ex.mut (.frz i) = false := by first | rfl | (rw [Ex.mut] <;> rfl) | rw [Ex.mut]
@[simp] theorem mut_lit {d : D} : Ex.mut (.lit d) = false := by first | rfl | (rw [Ex.mut] <;> rfl) | rw [Ex.mut]
@[simp] theorem mut_glob {g : Nat} : Ex.mut (.glob g) = false := by first | rfl | (rw [Ex.mut] <;> rfl) | rw [Ex.mut]
@[simp] theorem mut_op {o : Op} {es : Exs} : Ex.mut (.op o es) = es.mut := by first | rfl | (rw [Ex.mut] <;> rfl) | rw [Ex.mut]
@[simp] theorem mut_and {es : Exs} : Ex.mut (.and_ es) = es.mut := by first | rfl | (rw [Ex.mut] <;> rfl) | rw [Ex.mut]
@[simp] theorem mut_or {es : Exs} : Ex.mut (.or_ es) = es.mut := by first | rfl | (rw [Ex.mut] <;> rfl) | rw [Ex.mut]
@[simp] theorem mut_not {e : Ex} : Ex.mut (.not_ e) = e.mut := by first | rfl | (rw [Ex.mut] <;> rfl) | rw [Ex.mut]
@[simp] theorem mut_lele {a b c : Ex} : Ex.mut (.lele a b c) = (a.mut || (b.mut || c.mut)) := by first | rfl | (rw [Ex.mut] <;> rfl) | rw [Ex.mut]
@[simp] theorem mut_ite {a b c : Ex} : Ex.mut (.ite c a b) = (c.mut || (a.mut || b.mut)) := by first | rfl | (rw [Ex.mut] <;> rfl) | rw [Ex.mut]
@[simp] theorem mut_pop {i : Nat} : Ex.mut (.pop i) = true := by first | rfl | (rw [Ex.mut] <;> rfl) | rw [Ex.mut]
@[simp] theorem mut_popAt {i : Nat} {e : Ex} : Ex.mut (.popAt i e) = true := by first | rfl | (rw [Ex.mut] <;> rfl) | rw [Ex.mut]
@[simp] theorem mut_fr {f : Fx} : Ex.mut (.fr f) = f.mut := by first | rfl | (rw [Ex.mut] <;> rfl) | rw [Ex.mut]
@[simp] theorem muts_nil  : Exs.mut .nil = false := by first | rfl | (rw [Exs.mut] <;> rfl) | rw [Exs.mut]
@[simp] theorem muts_cons {e : Ex} {es : Exs} : Exs.mut (.cons e es) = (e.mut || es.mut) := by first | rfl | (rw [Exs.mut] <;> rfl) | rw [Exs.mut]
@[simp] theorem mut_ex {e : Ex} : Fx.mut (.ex e) = e.mut := by first | rfl | (rw [Fx.mut] <;> rfl) | rw [Fx.mut]
@[simp] theorem mut_disp {es : Exs} : Fx.mut (.disp es) = es.mut := by first | rfl | (rw [Fx.mut] <;> rfl) | rw [Fx.mut]
@[simp] theorem mut_rep {e n : Ex} : Fx.mut (.rep e n) = (e.mut || n.mut) := by first | rfl | (rw [Fx.mut] <;> rfl) | rw [Fx.mut]
@[simp] theorem mut_list {e : Ex} : Fx.mut (.list e) = e.mut := by first | rfl | (rw [Fx.mut] <;> rfl) | rw [Fx.mut]
@[simp] theorem mut_call {g : Nat} {as : Ags} : Fx.mut (.call g as) = true := by first | rfl | (rw [Fx.mut] <;> rfl) | rw [Fx.mut]
@[simp] theorem isIm_im {d : D} : T.isIm (.im d) = true := by first | rfl | (rw [T.isIm]; rfl) | rw [T.isIm]
@[simp] theorem isIm_ls {ts : List T} : T.isIm (.ls ts) = false := by first | rfl | (rw [T.isIm]; rfl) | rw [T.isIm]
@[simp] theorem arVals_nil {ρ : Rho} : arVals ρ [] = some ([], ρ) := by first | rfl | (rw [arVals]; rfl) | rw [arVals]
@[simp] theorem arVals_v {ρ : Rho} {t : T} {r : List Ar} : arVals ρ (.v t :: r) = (match arVals ρ r with
  | some (ts, ρ1) => some (t :: ts, ρ1)
  | none => none) := by first | rfl | (rw [arVals]; rfl) | rw [arVals]
@[simp] theorem arVals_r {ρ : Rho} {i : Nat} {r : List Ar} : arVals ρ (.r i :: r) = (match ρ[i]? with
  | some (some (.ls us)) => (match arVals (ρ.set i none) r with
    | some (ts, ρ1) => some (.ls us :: ts, ρ1)
    | none => none)
  | _ => none) := by first | rfl | (rw [arVals]; rfl) | rw [arVals]
@[simp] theorem arBack_nil {ρ : Rho} : arBack ρ [] [] = some ρ := by first | rfl | (rw [arBack]; rfl) | rw [arBack]
@[simp] theorem arBack_v {ρ : Rho} {t u : T} {r : List Ar} {ts : List T} : arBack ρ (.v t :: r) (u :: ts) = arBack ρ r ts := by first | rfl | (rw [arBack]; rfl) | rw [arBack]
@[simp] theorem arBack_r {ρ : Rho} {i : Nat} {u : T} {r : List Ar} {ts : List T} : arBack ρ (.r i :: r) (u :: ts) = arBack (ρ.set i (some u)) r ts := by first | rfl | (rw [arBack]; rfl) | rw [arBack]
@[simp] theorem natsOf_n  : natsOf [] = some [] := by first | rfl | (rw [natsOf]; rfl) | rw [natsOf]
@[simp] theorem natsOf_c {i : Int} {ts : List T} : natsOf (.im (.int i) :: ts) = (match natsOf ts with
  | some ns => if 0 ≤ i then some (i.toNat :: ns) else none
  | none => none) := by first | rfl | (rw [natsOf]; rfl) | rw [natsOf]
@[simp] theorem at_cons {ts : List T} {i : Nat} {p : List Nat} : T.at (.ls ts) (i :: p) = (match ts[i]? with
  | some t => t.at p
  | none => none) := by first | rfl | (rw [T.at]; rfl) | rw [T.at]
@[simp] theorem setAt_cons {ts : List T} {i : Nat} {p : List Nat} {u : T} : T.setAt (.ls ts) (i :: p) u = (match ts[i]? with
  | some t => .ls (ts.set i (t.setAt p u))
  | none => .ls ts) := by first | rfl | (rw [T.setAt]; rfl) | rw [T.setAt]
@[simp] theorem restore_nil {ρ0 ρ : Rho} : restore [] ρ0 ρ = ρ := by first | rfl | (rw [restore]; rfl) | rw [restore]
@[simp] theorem restore_cons {v : Nat} {vs : List Nat} {ρ0 ρ : Rho} : restore (v :: vs) ρ0 ρ = (restore vs ρ0 ρ).set v ((ρ0[v]?).getD none) := by first | rfl | (rw [restore]; rfl) | rw [restore]
@[simp] theorem wipeR_nil {ρ : Rho} : wipeR ρ [] = ρ := by first | rfl | (rw [wipeR]; rfl) | rw [wipeR]
@[simp] theorem wipeR_cons {v : Nat} {vs : List Nat} {ρ : Rho} : wipeR ρ (v :: vs) = (wipeR ρ vs).set v none := by first | rfl | (rw [wipeR]; rfl) | rw [wipeR]
@[simp] theorem outs_nil {ρ : Rho} : outs [] ρ = some [] := by first | rfl | (rw [outs]; rfl) | rw [outs]
@[simp] theorem outs_im {d : D} {r : List T} {x : Option T} {ρ : Rho} : outs (.im d :: r) (x :: ρ) = (match outs r ρ with
  | some us => some (.im d :: us)
  | none => none) := by first | rfl | (rw [outs]; rfl) | rw [outs]
@[simp] theorem outs_ls {ts : List T} {r : List T} {t : T} {ρ : Rho} : outs (.ls ts :: r) (some t :: ρ) = (match outs r ρ with
  | some us => some (t :: us)
  | none => none) := by first | rfl | (rw [outs]; rfl) | rw [outs]
@[simp] theorem pinned_nil {p : List Nat} {n : Nat} : pinned p n [] = true := by first | rfl | (rw [pinned]; rfl) | rw [pinned]
@[simp] theorem pinned_im {p : List Nat} {n : Nat} {d : D} {r : List T} : pinned p n (.im d :: r) = pinned p (n + 1) r := by first | rfl | (rw [pinned]; rfl) | rw [pinned]
@[simp] theorem pinned_ls {p : List Nat} {n : Nat} {ts : List T} {r : List T} : pinned p n (.ls ts :: r) = (p.contains n && pinned p (n + 1) r) := by first | rfl | (rw [pinned]; rfl) | rw [pinned]
section
@[simp] theorem at_nil {t : T} : t.at [] = some t := by cases t <;> rfl
@[simp] theorem setAt_nil {t u : T} : t.setAt [] u = u := by cases t <;> rfl
/-! ### operations -/
section
variable {a b c : Int} {s u : List Nat} {ds es : List D} {ts : List T} {d e : D} {x y z : T}
@[simp] theorem op_add : Op.run .add [x, y] = opAdd x y := rfl
@[simp] theorem op_sub : Op.run .sub [.im (.int a), .im (.int b)] = some (.im (.int (a - b))) := rfl
@[simp] theorem op_mul : Op.run .mul [x, y] = opMul x y := rfl
@[simp] theorem op_fdiv : Op.run .fdiv [.im (.int a), .im (.int b)] = if 0 < b ∧ big b = true then some (.im (.int (a / b))) else none := rfl
@[simp] theorem op_mod : Op.run .mod [.im (.int a), .im (.int b)] = if 0 < b then some (.im (.int (a % b))) else none := rfl
@[simp] theorem op_pow : Op.run .pow [.im (.int a), .im (.int b)] = if 0 ≤ b ∧ b ≤ 1000 ∧ a.natAbs < 2 ^ 2000 then some (.im (.int (a ^ b.toNat))) else none := rfl
@[simp] theorem op_neg : Op.run .neg [.im (.int a)] = some (.im (.int (-a))) := rfl
@[simp] theorem op_eq : Op.run .eq [x, y] = (opEq x.view y.view).bind imB := rfl
@[simp] theorem op_ne : Op.run .ne [x, y] = (opEq x.view y.view).bind fun b => imB (!b) := rfl
@[simp] theorem op_lt : Op.run .lt [.im (.int a), .im (.int b)] = some (.im (.bl (decide (a < b)))) := rfl
@[simp] theorem op_le : Op.run .le [.im (.int a), .im (.int b)] = some (.im (.bl (decide (a ≤ b)))) := rfl
@[simp] theorem op_gt : Op.run .gt [.im (.int a), .im (.int b)] = some (.im (.bl (decide (b < a)))) := rfl
@[simp] theorem op_ge : Op.run .ge [.im (.int a), .im (.int b)] = some (.im (.bl (decide (b ≤ a)))) := rfl
@[simp] theorem op_isN : Op.run .isN [.im d] = some (.im (.bl (isNon d))) := rfl
@[simp] theorem op_notN : Op.run .notN [.im d] = some (.im (.bl (!isNon d))) := rfl
@[simp] theorem op_in : Op.run .in_ [x, y] = (opIn x y).bind imB := rfl
@[simp] theorem op_nin : Op.run .nin [x, y] = (opIn x y).bind fun b => imB (!b) := rfl
@[simp] theorem op_len : Op.run .len [x] = (opLen x).bind imI := rfl
@[simp] theorem op_int : Op.run .int [x] = opInt x := rfl
@[simp] theorem op_abs : Op.run .abs [.im (.int a)] = some (.im (.int (if a < 0 then -a else a))) := rfl
@[simp] theorem op_min2 : Op.run .min2 [.im (.int a), .im (.int b)] = some (.im (.int (if b < a then b else a))) := rfl
@[simp] theorem op_min3 : Op.run .min3 [.im (.int a), .im (.int b), .im (.int c)] = some (.im (.int (min a (min b c)))) := rfl
@[simp] theorem op_max2 : Op.run .max2 [.im (.int a), .im (.int b)] = some (.im (.int (if b > a then b else a))) := rfl
@[simp] theorem op_sum : Op.run .sum [x] = onL (fun ds => (D.ints ds).bind fun ns => imI ns.sum) x := rfl
@[simp] theorem op_all : Op.run .all [x] = onL (fun ds => (D.bls ds).bind fun bs => imB (bs.all id)) x := rfl
@[simp] theorem op_any : Op.run .any [x] = onL (fun ds => (D.bls ds).bind fun bs => imB (bs.any id)) x := rfl
@[simp] theorem op_tuple : Op.run .tuple [x] = opTuple x := rfl
@[simp] theorem op_repr : Op.run .repr [.im d] = opShown d := rfl
@[simp] theorem op_isi {t : Ty} : Op.run (.isi t) [.im d] = some (.im (.bl (t.has d))) := rfl
@[simp] theorem op_ix : Op.run .ix [x, y] = opIxA x y := rfl
@[simp] theorem op_slc0 : Op.run (.slc false false) [x] = opSl x none none := rfl
@[simp] theorem op_slc1 : Op.run (.slc true false) [x, .im (.int a)] = opSl x (some a) none := rfl
@[simp] theorem op_slc2 : Op.run (.slc false true) [x, .im (.int a)] = opSl x none (some a) := rfl
@[simp] theorem op_slc3 : Op.run (.slc true true) [x, .im (.int a), .im (.int b)] = opSl x (some a) (some b) := rfl
@[simp] theorem op_rev : Op.run .rev [x] = opRev x := rfl
@[simp] theorem op_tup : Op.run .tup ts = opTup ts := rfl
@[simp] theorem op_join : Op.run .join [.im d, y] = opJoin d y := rfl
@[simp] theorem op_lindex : Op.run .lindex [x, .im d] = onL (opLix d) x := rfl
@[simp] theorem op_lrange : Op.run .lrange [.im (.int a)] = if -1000000 ≤ a ∧ a ≤ 1000000 then some (.im (.lst ((List.range a.toNat).map fun i => .int (i : Nat)))) else none := by
  have e : (a ≤ LIM ∧ -LIM ≤ a) = (-1000000 ≤ a ∧ a ≤ 1000000) := by unfold LIM; exact propext ⟨fun h => ⟨h.2, h.1⟩, fun h => ⟨h.2, h.1⟩⟩
  show (if a ≤ LIM ∧ -LIM ≤ a then _ else _) = _
  simp only [e]
@[simp] theorem op_starL : Op.run .starL (x :: ts) = opStarL x ts := rfl
@[simp] theorem op_starT2 : Op.run .starT2 [x, y] = opStarT x y := rfl
@[simp] theorem opAdd_int : opAdd (.im (.int a)) (.im (.int b)) = some (.im (.int (a + b))) := rfl
@[simp] theorem opAdd_str (h : s.length + u.length ≤ LIM) : opAdd (.im (.str s)) (.im (.str u)) = some (.im (.str (s ++ u))) := if_pos h
@[simp] theorem opAdd_lst (h : ds.length + es.length ≤ LIM) : opAdd (.im (.lst ds)) (.im (.lst es)) = some (.im (.lst (ds ++ es))) := if_pos h
@[simp] theorem opAdd_tup (h : ds.length + es.length ≤ LIM) : opAdd (.im (.tup ds)) (.im (.tup es)) = some (.im (.tup (ds ++ es))) := if_pos h
theorem opMul_int (h1 : big a = true) (h2 : big b = true) : opMul (.im (.int a)) (.im (.int b)) = some (.im (.int (a * b))) := by
  unfold opMul; simp only [h1, h2]; rfl
@[simp] theorem opInt_int : opInt (.im (.int a)) = some (.im (.int a)) := rfl
@[simp] theorem opInt_bl {b : Bool} : opInt (.im (.bl b)) = some (.im (.int (if b then 1 else 0))) := rfl
@[simp] theorem opLen_lst : opLen (.im (.lst ds)) = some (ds.length : Int) := rfl
@[simp] theorem opLen_tup : opLen (.im (.tup ds)) = some (ds.length : Int) := rfl
@[simp] theorem opLen_ls : opLen (.ls ts) = some (ts.length : Int) := rfl
@[simp] theorem opLen_str (h : s.length ≤ LIM) : opLen (.im (.str s)) = some (s.length : Int) := if_pos h
@[simp] theorem imB_eq {b : Bool} : imB b = some (.im (.bl b)) := rfl
@[simp] theorem imI_eq : imI a = some (.im (.int a)) := rfl
@[simp] theorem view_im : T.view (.im d) = d := rfl
@[simp] theorem view_ls : T.view (.ls ts) = .lst (ts.map T.view) := by rw [T.view, views_eq]
@[simp] theorem imsOf_map {xs : List D} : imsOf (xs.map T.im) = some xs := by
  induction xs with
  | nil => rfl
  | cons x xs ih => rw [List.map_cons, imsOf, ih]
@[simp] theorem imsOf_mapf {β : Type} {xs : List β} {f : β → D} : imsOf (xs.map fun x => T.im (f x)) = some (xs.map f) := by
  have := imsOf_map (xs := xs.map f)
  rwa [List.map_map] at this
@[simp] theorem imsOf_nil : imsOf [] = some [] := rfl
@[simp] theorem imsOf_c : imsOf (.im d :: ts) = (match imsOf ts with
  | some ds => some (d :: ds)
  | none => none) := rfl
@[simp] theorem imsOf_app {ts us : List T} : imsOf (ts ++ us) = (match imsOf ts with
  | some ds => (match imsOf us with
    | some es => some (ds ++ es)
    | none => none)
  | none => none) := by
  induction ts with
  | nil => cases h : imsOf us <;> simp [h]
  | cons t ts ih =>
    cases t with
    | ls _ => rfl
    | im d =>
      simp only [List.cons_append, imsOf_c, ih]
      cases imsOf ts with
      | none => rfl
      | some ds => cases imsOf us <;> rfl
@[simp] theorem lst_lst : T.lst? (.im (.lst ds)) = some ds := rfl
@[simp] theorem lst_ls : T.lst? (.ls ts) = imsOf ts := rfl
@[simp] theorem seq_lst : T.seq? (.im (.lst ds)) = some ds := rfl
@[simp] theorem seq_tup : T.seq? (.im (.tup ds)) = some ds := rfl
@[simp] theorem seq_ls : T.seq? (.ls ts) = imsOf ts := rfl
@[simp] theorem walk_lst : T.walk (.im (.lst ds)) = some ds := rfl
@[simp] theorem walk_tup : T.walk (.im (.tup ds)) = some ds := rfl
@[simp] theorem walk_str : T.walk (.im (.str s)) = some (s.map fun c => .str [c]) := rfl
@[simp] theorem walk_ls : T.walk (.ls ts) = imsOf ts := rfl
@[simp] theorem sqD_lst : sqD (.lst ds) = some (true, ds) := rfl
@[simp] theorem sqD_tup : sqD (.tup ds) = some (false, ds) := rfl
@[simp] theorem opTuple_tup : opTuple (.im (.tup ds)) = some (.im (.tup ds)) := rfl
@[simp] theorem opTuple_lst : opTuple (.im (.lst ds)) = some (.im (.tup ds)) := rfl
@[simp] theorem opTuple_ls : opTuple (.ls ts) = (match imsOf ts with
  | some ds => some (.im (.tup ds))
  | none => none) := by
  show onL _ (T.ls ts) = _
  unfold onL; rfl
@[simp] theorem onL_lst {f : List D → Option T} : onL f (.im (.lst ds)) = f ds := rfl
@[simp] theorem onL_ls {f : List D → Option T} : onL f (.ls ts) = (match imsOf ts with
  | some ds => f ds
  | none => none) := rfl
@[simp] theorem bls_map {β : Type} {xs : List β} {f : β → Bool} : D.bls (xs.map fun x => D.bl (f x)) = some (xs.map f) := by
  induction xs with
  | nil => rfl
  | cons x xs ih => rw [List.map_cons, D.bls, ih]; rfl
@[simp] theorem ints_map {β : Type} {xs : List β} {f : β → Int} : D.ints (xs.map fun x => D.int (f x)) = some (xs.map f) := by
  induction xs with
  | nil => rfl
  | cons x xs ih => rw [List.map_cons, D.ints, ih]; rfl
@[simp] theorem strs_map {β : Type} {xs : List β} {f : β → List Nat} : D.strs (xs.map fun x => D.str (f x)) = some (xs.map f) := by
  induction xs with
  | nil => rfl
  | cons x xs ih => rw [List.map_cons, D.strs, ih]; rfl
@[simp] theorem bls_map' {xs : List Bool} : D.bls (xs.map D.bl) = some xs := by
  have := bls_map (xs := xs) (f := id)
  simpa using this
@[simp] theorem ints_map' {xs : List Int} : D.ints (xs.map D.int) = some xs := by
  have := ints_map (xs := xs) (f := id)
  simpa using this
@[simp] theorem strs_map' {xs : List (List Nat)} : D.strs (xs.map D.str) = some xs := by
  have := strs_map (xs := xs) (f := id)
  simpa using this
@[simp] theorem bls_n : D.bls [] = some [] := rfl
@[simp] theorem ints_n : D.ints [] = some [] := rfl
@[simp] theorem strs_n : D.strs [] = some [] := rfl
@[simp] theorem bls_c {b : Bool} : D.bls (.bl b :: ds) = (match D.bls ds with
  | some bs => some (b :: bs)
  | none => none) := rfl
@[simp] theorem ints_c {b : Int} : D.ints (.int b :: ds) = (match D.ints ds with
  | some bs => some (b :: bs)
  | none => none) := rfl
@[simp] theorem strs_c {b : List Nat} : D.strs (.str b :: ds) = (match D.strs ds with
  | some bs => some (b :: bs)
  | none => none) := rfl
@[simp] theorem opTup_eq : opTup ts = (match imsOf ts with
  | some ds => if ds.length ≤ LIM then some (.im (.tup ds)) else none
  | none => none) := rfl
@[simp] theorem opEq_int : opEq (.int a) (.int b) = some (decide (a = b)) := rfl
@[simp] theorem opEq_str : opEq (.str s) (.str u) = some (decide (s = u)) := rfl
@[simp] theorem opEq_bl {a b : Bool} : opEq (.bl a) (.bl b) = some (decide (a = b)) := rfl
@[simp] theorem isNon_non : isNon .non = true := rfl
@[simp] theorem isNon_tup : isNon (.tup ds) = false := rfl
@[simp] theorem isNon_str : isNon (.str s) = false := rfl
@[simp] theorem isNon_int : isNon (.int a) = false := rfl
@[simp] theorem isNon_lst : isNon (.lst ds) = false := rfl
@[simp] theorem has_tup_tup : Ty.has .tuple (.tup ds) = true := rfl
@[simp] theorem has_str_str : Ty.has .str (.str s) = true := rfl
@[simp] theorem has_int_int : Ty.has .int (.int a) = true := rfl
@[simp] theorem has_bool_int : Ty.has .bool (.int a) = false := rfl
@[simp] theorem lim_eq : LIM = 1000000 := by decide
theorem big_of {a : Int} (h : a.natAbs < 2 ^ 1000) : big a = true := by
  unfold big
  rw [decide_eq_true_eq]
  exact Nat.lt_trans h (Nat.pow_lt_pow_right (by omega) (by omega))
theorem opMul_of (h1 : a.natAbs < 2 ^ 1000) (h2 : b.natAbs < 2 ^ 1000) : opMul (.im (.int a)) (.im (.int b)) = some (.im (.int (a * b))) := opMul_int (big_of h1) (big_of h2)
theorem lt_big {n m : Nat} (h : n < 2 ^ m) (hm : m ≤ 1000) : n < 2 ^ 1000 := Nat.lt_of_lt_of_le h (Nat.pow_le_pow_right (by omega) hm)
/-! ### items, slices -/
theorem ixN_nat {n i : Nat} (h : i < n) : ixN n (i : Int) = some i := by
  unfold ixN
  rw [if_pos (Int.natCast_nonneg i), if_pos (by omega)]
  rfl
theorem ixN_neg {n i : Nat} (h : 0 < i) (h2 : i ≤ n) : ixN n (-(i : Int)) = some (n - i) := by
  unfold ixN
  rw [if_neg (by omega), if_pos (by omega)]
  congr 1
  omega
theorem atI_nat {β : Type} {xs : List β} {i : Nat} (h : i < xs.length) : atI xs (i : Int) = xs[i]? := by
  unfold atI
  rw [ixN_nat h]
  rfl
@[simp] theorem opIxA_tup : opIxA (.im (.tup ds)) (.im (.int a)) = (match atI ds a with
  | some d => some (.im d)
  | none => none) := rfl
@[simp] theorem opIxA_lst : opIxA (.im (.lst ds)) (.im (.int a)) = (match atI ds a with
  | some d => some (.im d)
  | none => none) := rfl
@[simp] theorem opIxA_ls : opIxA (.ls ts) (.im (.int a)) = atI ts a := rfl
@[simp] theorem opIxA_str (h : s.length ≤ LIM) : opIxA (.im (.str s)) (.im (.int a)) = (match atI s a with
  | some c => some (.im (.str [c]))
  | none => none) := by
  show opIx (.im (.str s)) a = _
  unfold opIx
  exact if_pos h
theorem opSl_tup (h : ds.length ≤ LIM) {lo hi : Option Int} : opSl (.im (.tup ds)) lo hi = some (.im (.tup (cutA ds lo hi))) := if_pos h
theorem opSl_lst (h : ds.length ≤ LIM) {lo hi : Option Int} : opSl (.im (.lst ds)) lo hi = some (.im (.lst (cutA ds lo hi))) := if_pos h
theorem opSl_str (h : s.length ≤ LIM) {lo hi : Option Int} : opSl (.im (.str s)) lo hi = some (.im (.str (cutA s lo hi))) := if_pos h
theorem sIx_nat {n d i : Nat} (h : i ≤ n) : HT.sIx n d (some (i : Int)) = i := by
  rw [HT.sIx_nat]; omega
theorem cutA_nat {β : Type} {xs : List β} {i j : Nat} (hi : i ≤ xs.length) (hj : j ≤ xs.length) : cutA xs (some (i : Int)) (some (j : Int)) = (xs.drop i).take (j - i) := by
  unfold cutA
  rw [sIx_nat hi, sIx_nat hj]
theorem rng2_okk {a b : Int} (h1 : okI a = true) (h2 : okI b = true) : rng2 a b = some (rngI a (b - a).toNat 1) := by
  unfold rng2
  rw [h1, h2]; rfl
theorem okI_le {a : Int} (h1 : -1000000000 ≤ a) (h2 : a ≤ 1000000000) : okI a = true := by
  unfold okI
  simp
  omega
theorem rng2_nat {i j : Nat} (hj : j ≤ 1000000000) (hi : i ≤ 1000000000) : rng2 (i : Int) (j : Int) = some ((List.range' i (j - i)).map fun k => D.int ((k : Nat) : Int)) := by
  rw [rng2_okk (okI_le (by omega) (by omega)) (okI_le (by omega) (by omega))]
  unfold rngI
  rw [show ((j : Int) - (i : Int)).toNat = j - i by omega, List.range'_eq_map_range, List.map_map]
  congr 1
  apply List.map_congr_left
  intro k _
  simp
theorem rng2_zero {j : Nat} (hj : j ≤ 1000000000) : rng2 0 (j : Int) = some ((List.range j).map fun k => D.int ((k : Nat) : Int)) := by
  have := rng2_nat (i := 0) hj (by omega)
  rw [List.range_eq_range']
  simpa using this
section
variable {Φ : Fns} {G : Nat → Option D} {ρ ρ1 ρ2 ρ3 : Rho} {a b c : Ex} {ds : List D} {i j k : Int}
theorem evi1 (h : a.ev Φ G ρ = some (.im (.int i), ρ1)) (h2 : rng2 0 i = some ds) : (It.rng1 a).evi Φ G ρ = some (ds, ρ1) := by
  rw [It.evi, h]; simp only [h2]
theorem evi2 (h : a.ev Φ G ρ = some (.im (.int i), ρ1)) (h1 : b.ev Φ G ρ1 = some (.im (.int j), ρ2)) (h2 : rng2 i j = some ds) : (It.rng2 a b).evi Φ G ρ = some (ds, ρ2) := by
  rw [It.evi, h]; simp only [h1, h2]
theorem evi3 (h : a.ev Φ G ρ = some (.im (.int i), ρ1)) (h1 : b.ev Φ G ρ1 = some (.im (.int j), ρ2)) (h3 : c.ev Φ G ρ2 = some (.im (.int k), ρ3)) (h2 : rng3 i j k = some ds) : (It.rng3 a b c).evi Φ G ρ = some (ds, ρ3) := by
  rw [It.evi, h]; simp only [h1, h3, h2]
theorem rng2_to {i : Int} {j : Nat} (e : i = (j : Int)) (hj : j ≤ 1000000000) : rng2 0 i = some ((List.range j).map fun k => D.int ((k : Nat) : Int)) := by
  rw [e]; exact rng2_zero hj
theorem rng2_frm {i j : Int} {m n : Nat} (e : i = (m : Int)) (e2 : j = (n : Int)) (h : m ≤ 1000000000) (hj : n ≤ 1000000000) : rng2 i j = some ((List.range' m (n - m)).map fun k => D.int ((k : Nat) : Int)) := by
  rw [e, e2]; exact rng2_nat hj h
theorem rng3_down {n : Nat} {i : Int} (e : i = (n : Int) - 1) (h : n ≤ 1000000) : rng3 i (-1) (-1) = some ((List.range n).map fun (i : Nat) => D.int ((n : Int) - 1 - ((i : Nat) : Int))) := by
  rw [e]
  unfold rng3
  rw [okI_le (by omega) (by omega), okI_le (by omega) (by omega)]
  simp only [Bool.and_self, decide_true, if_true, Option.some.injEq]
  unfold rngI
  rw [show ((n : Int) - 1 - -1).toNat = n by omega]
  apply List.map_congr_left
  intro i _
  congr 1
  omega
end
end
end
end Em

set_option Elab.async false
set_option linter.all false
set_option maxRecDepth 100000
set_option maxHeartbeats 4000000
/-! EmPt: trees that are compared and shown. -/
namespace Em
open PySem PySem.Spec PyProof.Rows L2

mutual
/-- no dict within; texts of code points; numbers that are shown -/
def D.nice : D → Bool
  | .non => true
  | .bl _ => true
  | .int i => decide (i.natAbs.log2 < 1920)
  | .str s => s.all (· < 0x110000)
  | .tup ds => nices ds
  | .lst ds => nices ds
  | .dct _ _ => false
def nices : List D → Bool
  | [] => true
  | d :: ds => d.nice && nices ds
end
mutual
def D.dp : D → Nat
  | .non => 0
  | .bl _ => 0
  | .int _ => 0
  | .str _ => 0
  | .tup ds => dps ds + 1
  | .lst ds => dps ds + 1
  | .dct _ _ => 0
def dps : List D → Nat
  | [] => 0
  | d :: ds => max d.dp (dps ds)
end
mutual
theorem nice_lay : ∀ {d : D}, d.nice = true → d.py.canLay0 = true ∧ d.py.hasDict = false ∧ d.py.showable = true
  | .non, _ => ⟨rfl, rfl, rfl⟩
  | .bl _, _ => ⟨rfl, rfl, rfl⟩
  | .int i, h => by
    simp only [D.nice] at h
    exact ⟨rfl, rfl, by simpa [D.py, PyData.showable] using h⟩
  | .str s, h => by
    simp only [D.nice] at h
    exact ⟨by simpa [D.py, PyData.canLay0, PyData.strOk] using h, rfl, rfl⟩
  | .tup ds, h => by
    simp only [D.nice] at h
    obtain ⟨a, b, c⟩ := nices_lay h
    exact ⟨by simpa [D.py, PyData.canLay0] using a, by simpa [D.py, PyData.hasDict] using b, by simpa [D.py, PyData.showable] using c⟩
  | .lst ds, h => by
    simp only [D.nice] at h
    obtain ⟨a, b, c⟩ := nices_lay h
    exact ⟨by simpa [D.py, PyData.canLay0] using a, by simpa [D.py, PyData.hasDict] using b, by simpa [D.py, PyData.showable] using c⟩
  | .dct _ _, h => by simp [D.nice] at h
theorem nices_lay : ∀ {ds : List D}, nices ds = true → PyData.canLayAll0 (pys ds) = true ∧ PyData.hasDictAll (pys ds) = false ∧ PyData.showableAll (pys ds) = true
  | [], _ => ⟨rfl, rfl, rfl⟩
  | d :: ds, h => by
    simp only [nices, Bool.and_eq_true] at h
    obtain ⟨a, b, c⟩ := nice_lay h.1
    obtain ⟨a2, b2, c2⟩ := nices_lay h.2
    exact ⟨by simp [pys, PyData.canLayAll0, a, a2], by simp [pys, PyData.hasDictAll, b, b2], by simp [pys, PyData.showableAll, c, c2]⟩
end
mutual
theorem dp_py : ∀ d : D, d.py.depth ≤ d.dp + 1
  | .non => by simp [D.py, PyData.depth]
  | .bl _ => by simp [D.py, PyData.depth]
  | .int _ => by simp [D.py, PyData.depth]
  | .str _ => by simp [D.py, PyData.depth]
  | .tup ds => by
    have := dps_py ds
    simp only [D.py, PyData.depth, D.dp]; omega
  | .lst ds => by
    have := dps_py ds
    simp only [D.py, PyData.depth, D.dp]; omega
  | .dct _ _ => by simp [D.py, PyData.depth, PyData.depthKv]
theorem dps_py : ∀ ds : List D, PyData.depthAll (pys ds) ≤ dps ds + 1
  | [] => by simp [pys, PyData.depthAll]
  | d :: ds => by
    have h1 := dp_py d
    have h2 := dps_py ds
    simp only [pys, PyData.depthAll, dps]; omega
end
/-- a tree that is compared and shown -/
def D.ok (d : D) : Bool := d.nice && decide (d.dp ≤ 50)
theorem ok_shaped {d : D} (h : d.ok = true) : SeqAt.shaped d.py = true ∧ d.noD = true ∧ d.py.showable = true ∧ d.py.depth ≤ 60 := by
  unfold D.ok at h
  simp only [Bool.and_eq_true, decide_eq_true_eq] at h
  obtain ⟨a, b, c⟩ := nice_lay h.1
  have := dp_py d
  refine ⟨?_, ?_, c, by omega⟩
  · unfold SeqAt.shaped
    simp only [a, Bool.true_and, decide_eq_true_eq]; omega
  · unfold D.noD
    rw [b]; rfl
theorem scalEq_eqb {x y : D} {b : Bool} (h : scalEq x y = some b) : b = x.eqb y := by
  cases x <;> cases y <;> simp [scalEq] at h <;> subst h <;> simp [D.eqb] <;> first | done | (rw [Bool.eq_iff_iff]; simp)
theorem opEq_ok {x y : D} (hx : x.ok = true) (hy : y.ok = true) : opEq x y = some (x.eqb y) := by
  unfold opEq
  cases h : scalEq x y with
  | some b => simp only [scalEq_eqb h]
  | none =>
    obtain ⟨a1, a2, _, _⟩ := ok_shaped hx
    obtain ⟨b1, b2, _, _⟩ := ok_shaped hy
    simp [a1, a2, b1, b2]
mutual
/-- without bools within, equal is the same -/
def D.pl : D → Bool
  | .non => true
  | .bl _ => false
  | .int _ => true
  | .str _ => true
  | .tup ds => pls ds
  | .lst ds => pls ds
  | .dct _ _ => false
def pls : List D → Bool
  | [] => true
  | d :: ds => d.pl && pls ds
end
mutual
theorem eqb_iff : ∀ {x y : D}, x.pl = true → y.pl = true → (x.eqb y = true ↔ x = y)
  | .non, y, _, hy => by cases y <;> simp_all [D.eqb, D.pl]
  | .bl _, _, h, _ => by simp [D.pl] at h
  | .int _, y, _, hy => by cases y <;> simp_all [D.eqb, D.pl]
  | .str _, y, _, hy => by cases y <;> simp_all [D.eqb, D.pl]
  | .tup a, y, hx, hy => by
    cases y <;> simp_all [D.eqb, D.pl]
    exact eqbs_iff hx hy
  | .lst a, y, hx, hy => by
    cases y <;> simp_all [D.eqb, D.pl]
    exact eqbs_iff hx hy
  | .dct _ _, _, h, _ => by simp [D.pl] at h
theorem eqbs_iff : ∀ {x y : List D}, pls x = true → pls y = true → (eqbs x y = true ↔ x = y)
  | [], y, _, _ => by cases y <;> simp [eqbs]
  | a :: x, y, hx, hy => by
    cases y with
    | nil => simp [eqbs]
    | cons b y =>
      simp only [pls, Bool.and_eq_true] at hx hy
      simp only [eqbs, Bool.and_eq_true, List.cons.injEq]
      rw [eqb_iff hx.1 hy.1, eqbs_iff hx.2 hy.2]
end
mutual
theorem eqb_refl : ∀ {x : D}, x.nice = true → x.eqb x = true
  | .non, _ => by simp [D.eqb]
  | .bl _, _ => by simp [D.eqb]
  | .int _, _ => by simp [D.eqb]
  | .str _, _ => by simp [D.eqb]
  | .tup a, h => by
    simp only [D.nice] at h
    simp only [D.eqb]; exact eqbs_refl h
  | .lst a, h => by
    simp only [D.nice] at h
    simp only [D.eqb]; exact eqbs_refl h
  | .dct _ _, h => by simp [D.nice] at h
theorem eqbs_refl : ∀ {x : List D}, nices x = true → eqbs x x = true
  | [], _ => by simp [eqbs]
  | a :: x, h => by
    simp only [nices, Bool.and_eq_true] at h
    simp only [eqbs, Bool.and_eq_true]
    exact ⟨eqb_refl h.1, eqbs_refl h.2⟩
end
theorem nices_iff : ∀ {ds : List D}, nices ds = true ↔ ∀ d ∈ ds, d.nice = true
  | [] => by simp [nices]
  | d :: ds => by simp [nices, nices_iff (ds := ds)]
theorem pls_iff : ∀ {ds : List D}, pls ds = true ↔ ∀ d ∈ ds, d.pl = true
  | [] => by simp [pls]
  | d :: ds => by simp [pls, pls_iff (ds := ds)]
theorem dps_le : ∀ {ds : List D} {n : Nat}, dps ds ≤ n ↔ ∀ d ∈ ds, d.dp ≤ n
  | [], n => by simp [dps]
  | d :: ds, n => by simp [dps, dps_le (ds := ds), Nat.max_le]
theorem opIn_seq {d : D} {ds : List D} (b : Bool) : opIn (.im d) (.im (if b then .tup ds else .lst ds)) = (if d.flat && ds.all D.flat then some (ds.any fun e => e.eqb d)
      else if SeqAt.shaped d.py && (PyData.canLayAll0 (pys ds) && (d.noD && !PyData.hasDictAll (pys ds))) then some (ds.any fun e => e.eqb d) else none) := by
  cases b <;> cases d with
  | str s => (cases s with
    | nil => rfl
    | cons c r => cases r <;> rfl)
  | _ => rfl
theorem opIn_all {d : D} {ds : List D} (b : Bool) (hd : d.ok = true) (hs : nices ds = true) : opIn (.im d) (.im (if b then .tup ds else .lst ds)) = some (ds.any fun e => e.eqb d) := by
  obtain ⟨a1, a2, _, _⟩ := ok_shaped hd
  obtain ⟨b1, b2, b3⟩ := nices_lay hs
  rw [opIn_seq]
  by_cases c : (d.flat && ds.all D.flat) = true
  · rw [if_pos c]
  · rw [if_neg c, if_pos (by simp [a1, a2, b1, b2])]
theorem opIn_tup {d : D} {ds : List D} (hd : d.ok = true) (hs : nices ds = true) : opIn (.im d) (.im (.tup ds)) = some (ds.any fun e => e.eqb d) := opIn_all true hd hs
theorem opIn_lst {d : D} {ds : List D} (hd : d.ok = true) (hs : nices ds = true) : opIn (.im d) (.im (.lst ds)) = some (ds.any fun e => e.eqb d) := opIn_all false hd hs
theorem opIn_str {c : Nat} {s : List Nat} : opIn (.im (.str [c])) (.im (.str s)) = some (decide (c ∈ s)) := rfl

/-! ### how long a tree is, shown -/
mutual
def D.sz : D → Nat
  | .non => 10
  | .bl _ => 10
  | .int i => i.natAbs.log2 + 10
  | .str s => 10 * s.length + 10
  | .tup ds => szs ds + 10
  | .lst ds => szs ds + 10
  | .dct _ _ => 0
def szs : List D → Nat
  | [] => 0
  | d :: ds => d.sz + 2 + szs ds
end
theorem textFrom_le : ∀ (ts : List Str) (k : Nat) (acc : Str), (textFrom k acc ts).length ≤ acc.length + piled ts
  | [], k, acc => by simp [textFrom, piled_nil]
  | t :: ts, k, acc => by
    have := textFrom_le ts (k + 1) (acc ++ (if k > 0 then ", " else "" : String) ++ t)
    rw [strLen_append, strLen_append] at this
    have e : (Str.ofString (if k > 0 then ", " else "" : String)).length ≤ 2 := by split <;> decide
    rw [piled_cons]
    show (textFrom (k + 1) (acc ++ (if k > 0 then ", " else "" : String) ++ t) ts).length ≤ _
    have e2 : (Str.ofString (if k > 0 then ", " else "" : String)).length = ((if k > 0 then ", " else "" : String) : Str).length := rfl
    omega
theorem tupleText_le (ts : List Str) : (tupleText ts).length ≤ piled ts + 4 := by
  unfold tupleText
  rw [strLen_append, strLen_append]
  have e1 : ("(" : Str).length = 1 := by decide
  have e2 : ((if ts.length == 1 then ",)" else ")" : String) : Str).length ≤ 2 := by split <;> decide
  by_cases h : ts = []
  · subst h
    have : (Str.join ", " []).length = 0 := by decide
    omega
  · have := join_length_add ts h
    omega
theorem listText_le (ts : List Str) : (listText ts).length ≤ piled ts + 4 := by
  unfold listText
  rw [strLen_append]
  have := textFrom_le ts 0 "["
  have e1 : ("[" : Str).length = 1 := by decide
  have e2 : ("]" : Str).length = 1 := by decide
  omega
theorem int_le (i : Int) : (Str.ofString (toString i)).length ≤ i.natAbs.log2 + 2 := by
  have := int_text_length_le (a := i) (k := i.natAbs.log2 + 1) (by omega) (by omega)
  rw [PySem.ofString_length]; omega
mutual
theorem sz_ok : ∀ {d : D}, d.nice = true → d.py.shown.length ≤ d.sz
  | .non, _ => by simp only [D.py, PyData.shown, D.sz]; decide
  | .bl b, _ => by cases b <;> simp only [D.py, PyData.shown, D.sz] <;> decide
  | .int i, _ => by
    simp only [D.py, PyData.shown, D.sz]
    have := int_le i
    exact Nat.le_trans this (by omega)
  | .str s, h => by
    simp only [D.nice, List.all_eq_true, decide_eq_true_eq] at h
    simp only [D.py, PyData.shown, D.sz]
    have := StrLaws.reprText_len ⟨s.toArray⟩ (fun c hc => Nat.lt_trans (h c (by simpa using hc)) (by decide))
    have e : (⟨s.toArray⟩ : Str).length = s.length := by simp [Str.length]
    omega
  | .tup ds, h => by
    simp only [D.nice] at h
    have := szs_ok h
    have h2 := tupleText_le (PyData.shownAll (pys ds))
    simp only [D.py, PyData.shown, D.sz]; omega
  | .lst ds, h => by
    simp only [D.nice] at h
    have := szs_ok h
    have h2 := listText_le (PyData.shownAll (pys ds))
    simp only [D.py, PyData.shown, D.sz]; omega
  | .dct _ _, h => by simp [D.nice] at h
theorem szs_ok : ∀ {ds : List D}, nices ds = true → piled (PyData.shownAll (pys ds)) ≤ szs ds
  | [], _ => by simp [pys, PyData.shownAll, piled_nil]
  | d :: ds, h => by
    simp only [nices, Bool.and_eq_true] at h
    have h1 := sz_ok h.1
    have h2 := szs_ok h.2
    simp only [pys, PyData.shownAll, piled_cons, szs]; omega
end
theorem opShown_ok {d : D} (h : d.ok = true) (hs : d.sz ≤ 1000000) : opShown d = some (.im (.str d.py.shown.cps.toList)) := by
  obtain ⟨a, b, c, e⟩ := ok_shaped h
  have hn : d.nice = true := by
    unfold D.ok at h
    simp only [Bool.and_eq_true] at h
    exact h.1
  have := sz_ok hn
  unfold opShown
  rw [if_pos]
  simp only [b, c, Bool.true_and, Bool.and_eq_true, decide_eq_true_eq]
  refine ⟨e, ?_⟩
  unfold LIM
  omega
theorem szs_le {ds : List D} {n : Nat} (h : ∀ d ∈ ds, d.sz ≤ n) : szs ds ≤ ds.length * (n + 2) := by
  induction ds with
  | nil => simp [szs]
  | cons d ds ih =>
    have h1 := h d List.mem_cons_self
    have h2 := ih fun x hx => h x (List.mem_cons_of_mem _ hx)
    simp only [szs, List.length_cons, Nat.succ_mul]; omega
theorem szs_sum (ds : List D) : szs ds = (ds.map fun d => d.sz + 2).sum := by
  induction ds with
  | nil => rfl
  | cons d ds ih => simp [szs, ih]
end Em

set_option Elab.async false
set_option linter.all false
/-! Mg1: rows of texts and their common places: plain mathematics of merges. -/
namespace Mg
variable {α : Type}

/-- the pairs of places at which two rows have one text, ascending in both: all of them -/
structure Chn (a b : List α) (ps : List (Nat × Nat)) : Prop where
  asc : ps.Pairwise fun p q => p.1 < q.1 ∧ p.2 < q.2
  at_ : ∀ p ∈ ps, p.1 < a.length ∧ p.2 < b.length ∧ a[p.1]? = b[p.2]?
  all : ∀ i j, i < a.length → j < b.length → a[i]? = b[j]? → (i, j) ∈ ps
/-- those from two places on -/
def frm (ps : List (Nat × Nat)) (h t : Nat) : List (Nat × Nat) := ps.filter fun p => decide (h ≤ p.1) && decide (t ≤ p.2)
def cnt (ps : List (Nat × Nat)) (h t : Nat) : Nat := (frm ps h t).length
theorem mem_frm {ps : List (Nat × Nat)} {h t : Nat} {p : Nat × Nat} : p ∈ frm ps h t ↔ p ∈ ps ∧ h ≤ p.1 ∧ t ≤ p.2 := by
  simp [frm]
theorem frm_zero (ps : List (Nat × Nat)) : frm ps 0 0 = ps := by
  simp [frm]
theorem frm_asc {ps : List (Nat × Nat)} (h : ps.Pairwise fun p q => p.1 < q.1 ∧ p.2 < q.2) (i j : Nat) : (frm ps i j).Pairwise fun p q => p.1 < q.1 ∧ p.2 < q.2 := h.filter _
theorem chain_cmp {ps : List (Nat × Nat)} (h : ps.Pairwise fun p q => p.1 < q.1 ∧ p.2 < q.2) {p q : Nat × Nat} (hp : p ∈ ps) (hq : q ∈ ps) : p = q ∨ (p.1 < q.1 ∧ p.2 < q.2) ∨ (q.1 < p.1 ∧ q.2 < p.2) := by
  induction ps with
  | nil => cases hp
  | cons x xs ih =>
    rw [List.pairwise_cons] at h
    rcases List.mem_cons.mp hp with e1 | m1
    · rcases List.mem_cons.mp hq with e2 | m2
      · exact .inl (e1.trans e2.symm)
      · rw [e1]; exact .inr (.inl (h.1 q m2))
    · rcases List.mem_cons.mp hq with e2 | m2
      · rw [e2]; exact .inr (.inr (h.1 p m1))
      · exact ih h.2 m1 m2
/-- the first of those from two places on; the rest are those from behind it -/
theorem frm_cons {ps : List (Nat × Nat)} (hp : ps.Pairwise fun p q => p.1 < q.1 ∧ p.2 < q.2) {i j p q : Nat} {r : List (Nat × Nat)} (e : frm ps i j = (p, q) :: r) : frm ps (p + 1) (q + 1) = r := by
  have m : (p, q) ∈ ps ∧ i ≤ p ∧ j ≤ q := mem_frm.mp (by rw [e]; exact List.mem_cons_self)
  have a := frm_asc hp i j
  rw [e, List.pairwise_cons] at a
  have e2 : frm ps (p + 1) (q + 1) = frm (frm ps i j) (p + 1) (q + 1) := by
    unfold frm
    rw [List.filter_filter]
    refine List.filter_congr fun x hx => ?_
    rw [Bool.eq_iff_iff]
    simp only [Bool.and_eq_true, decide_eq_true_eq]
    omega
  rw [e2, e]
  unfold frm
  rw [List.filter_cons]
  have : (decide (p + 1 ≤ (p, q).1) && decide (q + 1 ≤ (p, q).2)) = false := by simp
  rw [if_neg (by rw [this]; exact Bool.false_ne_true)]
  refine List.filter_eq_self.mpr fun x hx => ?_
  have := a.1 x hx
  simp only [Bool.and_eq_true, decide_eq_true_eq]
  omega
theorem frm_eq_of {ps : List (Nat × Nat)} {i j i' j' : Nat} (h : ∀ p ∈ ps, (i ≤ p.1 ∧ j ≤ p.2) ↔ (i' ≤ p.1 ∧ j' ≤ p.2)) : frm ps i j = frm ps i' j' := by
  unfold frm
  refine List.filter_congr fun x hx => ?_
  have := h x hx
  rw [Bool.eq_iff_iff]
  simp only [Bool.and_eq_true, decide_eq_true_eq]
  exact this
theorem cnt_mono {ps : List (Nat × Nat)} {i j i' j' : Nat} (h1 : i ≤ i') (h2 : j ≤ j') : cnt ps i' j' ≤ cnt ps i j := by
  have e : frm ps i' j' = frm (frm ps i j) i' j' := by
    unfold frm
    rw [List.filter_filter]
    refine List.filter_congr fun x hx => ?_
    rw [Bool.eq_iff_iff]
    simp only [Bool.and_eq_true, decide_eq_true_eq]
    omega
  unfold cnt
  rw [e]
  exact List.length_filter_le _ _
section
variable {a b : List α} {ps : List (Nat × Nat)}
theorem frm_head (C : Chn a b ps) {i j : Nat} (m : (i, j) ∈ ps) : ∃ r, frm ps i j = (i, j) :: r := by
  cases e : frm ps i j with
  | nil =>
    have : (i, j) ∈ frm ps i j := mem_frm.mpr ⟨m, Nat.le_refl _, Nat.le_refl _⟩
    rw [e] at this; cases this
  | cons x r =>
    have hx : x ∈ ps ∧ i ≤ x.1 ∧ j ≤ x.2 := mem_frm.mp (by rw [e]; exact List.mem_cons_self)
    have hm : (i, j) ∈ frm ps i j := mem_frm.mpr ⟨m, Nat.le_refl _, Nat.le_refl _⟩
    rw [e] at hm
    have A := frm_asc C.asc i j
    rw [e, List.pairwise_cons] at A
    rcases List.mem_cons.mp hm with q | q
    · exact ⟨r, by rw [← q]⟩
    · have := A.1 _ q
      simp only at this
      omega
theorem cnt_eq (C : Chn a b ps) {i j : Nat} (hi : i < a.length) (hj : j < b.length) (e : a[i]? = b[j]?) : cnt ps i j = 1 + cnt ps (i + 1) (j + 1) := by
  obtain ⟨r, h⟩ := frm_head C (C.all i j hi hj e)
  unfold cnt
  rw [frm_cons C.asc h, h, List.length_cons, Nat.add_comm]
theorem cnt_ne (C : Chn a b ps) {i j : Nat} (e : a[i]? ≠ b[j]?) : cnt ps i j = max (cnt ps (i + 1) j) (cnt ps i (j + 1)) := by
  have l1 : cnt ps (i + 1) j ≤ cnt ps i j := cnt_mono (by omega) (by omega)
  have l2 : cnt ps i (j + 1) ≤ cnt ps i j := cnt_mono (by omega) (by omega)
  by_cases h : ∃ p ∈ ps, p.1 = i ∧ j ≤ p.2
  · obtain ⟨p, hp, p1, p2⟩ := h
    have hpj : p.2 ≠ j := fun q => e (by have := (C.at_ p hp).2.2; rw [p1, q] at this; exact this)
    have : cnt ps i j = cnt ps i (j + 1) := by
      unfold cnt
      rw [frm_eq_of (i' := i) (j' := j + 1)]
      intro q hq
      refine ⟨fun z => ⟨z.1, ?_⟩, fun z => ⟨z.1, by omega⟩⟩
      rcases chain_cmp C.asc hp hq with y | y | y
      · rw [← y]; omega
      · omega
      · omega
    omega
  · have : cnt ps i j = cnt ps (i + 1) j := by
      unfold cnt
      rw [frm_eq_of (i' := i + 1) (j' := j)]
      intro q hq
      refine ⟨fun z => ⟨?_, z.2⟩, fun z => ⟨by omega, z.2⟩⟩
      rcases Nat.lt_or_ge i q.1 with y | y
      · exact y
      · exact absurd ⟨q, hq, by omega, z.2⟩ h
    omega
theorem cnt_out (C : Chn a b ps) {i j : Nat} (h : a.length ≤ i ∨ b.length ≤ j) : cnt ps i j = 0 := by
  unfold cnt
  rw [List.length_eq_zero_iff]
  cases e : frm ps i j with
  | nil => rfl
  | cons x r =>
    have hx : x ∈ ps ∧ i ≤ x.1 ∧ j ≤ x.2 := mem_frm.mp (by rw [e]; exact List.mem_cons_self)
    have := C.at_ x hx.1
    omega
end

/-! ### a row and an edit of it -/
/-- an item: a text, what is put in ahead of it, whether it stays -/
structure It (α : Type) where
  b : α
  f : List α
  k : Bool
def bas (s : List (It α)) : List α := s.map (·.b)
def row : List (It α) → List α → List α
  | [], e => e
  | x :: s, e => x.f ++ ((if x.k then [x.b] else []) ++ row s e)
def prs : List (It α) → Nat → Nat → List (Nat × Nat)
  | [], _, _ => []
  | x :: s, i, j => if x.k then (i, j + x.f.length) :: prs s (i + 1) (j + x.f.length + 1) else prs s (i + 1) (j + x.f.length)
/-- the fresh texts -/
def frs (s : List (It α)) (e : List α) : List α := s.flatMap (·.f) ++ e
theorem prs_lb : ∀ (s : List (It α)) (i j : Nat), ∀ p ∈ prs s i j, i ≤ p.1 ∧ j ≤ p.2
  | [], _, _, p, h => by cases h
  | x :: s, i, j, p, h => by
    unfold prs at h
    split at h
    · rcases List.mem_cons.mp h with e | m
      · rw [e]; exact ⟨Nat.le_refl _, Nat.le_add_right _ _⟩
      · have := prs_lb s _ _ p m; omega
    · have := prs_lb s _ _ p h; omega
theorem prs_asc : ∀ (s : List (It α)) (i j : Nat), (prs s i j).Pairwise fun p q => p.1 < q.1 ∧ p.2 < q.2
  | [], _, _ => List.Pairwise.nil
  | x :: s, i, j => by
    unfold prs
    split
    · refine List.pairwise_cons.mpr ⟨fun q hq => ?_, prs_asc s _ _⟩
      have := prs_lb s _ _ q hq
      simp only; omega
    · exact prs_asc s _ _
theorem prs_at (e : List α) : ∀ (s : List (It α)) (i j : Nat), ∀ p ∈ prs s i j, p.1 < i + s.length ∧ p.2 < j + (row s e).length ∧ (bas s)[p.1 - i]? = (row s e)[p.2 - j]?
  | [], _, _, p, h => by cases h
  | x :: s, i, j, p, h => by
    unfold prs at h
    split at h
    · rename_i hk
      rcases List.mem_cons.mp h with q | m
      · subst q
        simp [row, hk, bas]
      · have := prs_at e s _ _ p m
        have lb := prs_lb s _ _ p m
        refine ⟨by simp; omega, by simp [row, hk]; omega, ?_⟩
        rw [show p.1 - i = (p.1 - (i + 1)) + 1 by omega, show p.2 - j = x.f.length + ((p.2 - (j + x.f.length + 1)) + 1) by omega]
        simp only [bas, List.map_cons, List.getElem?_cons_succ, row, hk, if_true, List.singleton_append]
        rw [List.getElem?_append_right (by omega), Nat.add_sub_cancel_left, List.getElem?_cons_succ]
        exact this.2.2
    · rename_i hk
      have := prs_at e s _ _ p h
      have lb := prs_lb s _ _ p h
      refine ⟨by simp; omega, by simp [row, hk]; omega, ?_⟩
      rw [show p.1 - i = (p.1 - (i + 1)) + 1 by omega, show p.2 - j = x.f.length + (p.2 - (j + x.f.length)) by omega]
      have hk : x.k = false := by simpa using hk
      simp only [bas, List.map_cons, List.getElem?_cons_succ, row, hk, List.nil_append]
      rw [List.getElem?_append_right (by omega), Nat.add_sub_cancel_left]
      exact this.2.2
theorem row_sub : ∀ (s : List (It α)) (e : List α), ∀ y ∈ row s e, y ∈ bas s ∨ y ∈ frs s e
  | [], e, y, h => .inr (by simpa [frs, row] using h)
  | x :: s, e, y, h => by
    unfold row at h
    rcases List.mem_append.mp h with m | m
    · exact .inr (by simp [frs, m])
    · rcases List.mem_append.mp m with m | m
      · split at m
        · simp at m; exact .inl (by simp [bas, m])
        · cases m
      · rcases row_sub s e y m with z | z
        · exact .inl (by simp only [bas, List.map_cons]; exact List.mem_cons_of_mem _ z)
        · exact .inr (by
            simp only [frs, List.flatMap_cons, List.append_assoc]
            exact List.mem_append_right _ z)
theorem prs_all : ∀ (s : List (It α)) (e : List α) (i j : Nat), (bas s).Nodup → (∀ y ∈ frs s e, y ∉ bas s) → ∀ i' j', i' < s.length → j' < (row s e).length → (bas s)[i']? = (row s e)[j']? → (i + i', j + j') ∈ prs s i j
  | [], _, _, _, _, _, i', _, h, _, _ => absurd h (Nat.not_lt_zero _)
  | x :: s, e, i, j, nd, nf, i', j', hi, hj, he => by
    have nd2 : x.b ∉ bas s ∧ (bas s).Nodup := by simpa [bas, List.nodup_cons] using nd
    have nf2 : ∀ y ∈ frs s e, y ∉ bas s ∧ y ≠ x.b := fun y hy => by
      have := nf y (by simp only [frs, List.flatMap_cons, List.append_assoc]; exact List.mem_append_right _ hy)
      simp only [bas, List.map_cons, List.mem_cons, not_or] at this
      exact ⟨this.2, this.1⟩
    have nf1 : ∀ y ∈ x.f, y ∉ bas s ∧ y ≠ x.b := fun y hy => by
      have := nf y (by simp only [frs, List.flatMap_cons, List.append_assoc]; exact List.mem_append_left _ hy)
      simp only [bas, List.map_cons, List.mem_cons, not_or] at this
      exact ⟨this.2, this.1⟩
    have nr : x.b ∉ row s e := fun m => by
      rcases row_sub s e _ m with z | z
      · exact nd2.1 z
      · exact (nf2 _ z).2 rfl
    rcases Nat.lt_or_ge j' x.f.length with c | c
    · exfalso
      have e1 : (row (x :: s) e)[j']? = some x.f[j'] := by
        unfold row
        rw [List.getElem?_append_left c, List.getElem?_eq_getElem c]
      rw [e1] at he
      have m : x.f[j'] ∈ bas (x :: s) := List.mem_of_getElem? he
      have := nf1 _ (List.getElem_mem c)
      simp only [bas, List.map_cons, List.mem_cons] at m
      rcases m with m | m
      · exact this.2 m
      · exact this.1 m
    · have e1 : (row (x :: s) e)[j']? = ((if x.k then [x.b] else []) ++ row s e)[j' - x.f.length]? := by
        show (x.f ++ _)[j']? = _
        rw [List.getElem?_append_right c]
      rw [e1] at he
      have hj2 : j' - x.f.length < ((if x.k then [x.b] else []) ++ row s e).length := by
        have : (row (x :: s) e).length = x.f.length + ((if x.k then [x.b] else []) ++ row s e).length := by
          show (x.f ++ _).length = _
          rw [List.length_append]
        omega
      unfold prs
      cases hk : x.k with
      | true =>
        rw [hk] at he hj2
        simp only [if_true, List.singleton_append] at he hj2 ⊢
        cases i' with
        | zero =>
          refine List.mem_cons.mpr (.inl ?_)
          have : j' - x.f.length = 0 := by
            cases h : j' - x.f.length with
            | zero => rfl
            | succ m =>
              rw [h] at he
              simp only [bas, List.map_cons, List.getElem?_cons_zero, List.getElem?_cons_succ] at he
              exact absurd (List.mem_of_getElem? he.symm) nr
          rw [Nat.add_zero, show j + j' = j + x.f.length by omega]
        | succ m =>
          refine List.mem_cons.mpr (.inr ?_)
          cases h : j' - x.f.length with
          | zero =>
            rw [h] at he
            simp only [bas, List.map_cons, List.getElem?_cons_zero, List.getElem?_cons_succ] at he
            exact absurd (List.mem_of_getElem? he) nd2.1
          | succ l =>
            rw [h] at he hj2
            simp only [bas, List.map_cons, List.getElem?_cons_succ] at he
            have := prs_all s e (i + 1) (j + x.f.length + 1) nd2.2 (fun y hy => (nf2 y hy).1) m l (by simp at hi; omega) (by simp at hj2; omega) he
            rw [show i + (m + 1) = i + 1 + m by omega, show j + j' = j + x.f.length + 1 + l by omega]
            exact this
      | false =>
        rw [hk] at he hj2
        simp only [Bool.false_eq_true, if_false, List.nil_append] at he hj2 ⊢
        cases i' with
        | zero =>
          simp only [bas, List.map_cons, List.getElem?_cons_zero] at he
          exact absurd (List.mem_of_getElem? he.symm) nr
        | succ m =>
          simp only [bas, List.map_cons, List.getElem?_cons_succ] at he
          have := prs_all s e (i + 1) (j + x.f.length) nd2.2 (fun y hy => (nf2 y hy).1) m (j' - x.f.length) (by simp at hi; omega) hj2 he
          rw [show i + (m + 1) = i + 1 + m by omega, show j + j' = j + x.f.length + (j' - x.f.length) by omega]
          exact this
/-- an edit that puts fresh texts in has its own places for the common ones -/
theorem prs_chn (s : List (It α)) (e : List α) (nd : (bas s).Nodup) (nf : ∀ y ∈ frs s e, y ∉ bas s) : Chn (bas s) (row s e) (prs s 0 0) where
  asc := prs_asc s 0 0
  at_ := fun p hp => by
    have := prs_at e s 0 0 p hp
    refine ⟨by simpa [bas] using this.1, by simpa using this.2.1, by simpa using this.2.2⟩
  all := fun i j hi hj he => by
    have := prs_all s e 0 0 nd nf i j (by simpa [bas] using hi) hj he
    simpa using this
end Mg

set_option Elab.async false
set_option linter.all false
/-! Mg2: the blocks by which a row becomes another one, by pairs of places and by an edit's items. -/
namespace Mg
variable {α : Type}

inductive Bk (α : Type) where
  | keep (n : Nat)
  | turn (o f : List α)
  deriving DecidableEq
def sl (xs : List α) (i j : Nat) : List α := (xs.drop i).take (j - i)
theorem sl_mid (a b c : List α) : sl (a ++ (b ++ c)) a.length (a.length + b.length) = b := by
  unfold sl
  rw [List.drop_left, Nat.add_sub_cancel_left, List.take_left]

/-! ### by pairs of places -/
structure PSt (α : Type) where
  found : List (Bk α)
  here : Nat
  there : Nat
  kept : Nat
def pstep (a b : List α) (st : PSt α) (p : Nat × Nat) : PSt α :=
  if st.here < p.1 ∨ st.there < p.2 then ⟨(if 0 < st.kept then st.found ++ [.keep st.kept] else st.found) ++ [.turn (sl a st.here p.1) (sl b st.there p.2)], p.1 + 1, p.2 + 1, 0 + 1⟩
  else ⟨st.found, p.1 + 1, p.2 + 1, st.kept + 1⟩
def pend (st : PSt α) : List (Bk α) := if 1 < st.kept then st.found ++ [.keep (st.kept - 1)] else st.found
def blocksP (a b : List α) (ps : List (Nat × Nat)) : List (Bk α) := pend ((ps ++ [(a.length, b.length)]).foldl (pstep a b) ⟨[], 0, 0, 0⟩)

/-! ### by items -/
def addTurn (found : List (Bk α)) (o f : List α) : List (Bk α) := if o ++ f = [] then found else found ++ [.turn o f]
def addKeep (found : List (Bk α)) : List (Bk α) := match found.getLast? with
  | some (.keep m) => found.dropLast ++ [.keep (m + 1)]
  | _ => found ++ [.keep 1]
structure LSt (α : Type) where
  found : List (Bk α)
  out : List α
  fresh : List α
def lstep (st : LSt α) (x : It α) : LSt α := if x.k then ⟨addKeep (addTurn st.found st.out (st.fresh ++ x.f)), [], []⟩ else ⟨st.found, st.out ++ [x.b], st.fresh ++ x.f⟩
def lend (st : LSt α) (e : List α) : List (Bk α) := addTurn st.found st.out (st.fresh ++ e)
def blocksL (s : List (It α)) (e : List α) : List (Bk α) := lend (s.foldl lstep ⟨[], [], []⟩) e

theorem addKeep_keep {f : List (Bk α)} {m : Nat} : addKeep (f ++ [.keep m]) = f ++ [.keep (m + 1)] := by
  unfold addKeep
  simp
theorem addKeep_turn {f : List (Bk α)} {o g : List α} : addKeep (f ++ [.turn o g]) = f ++ [.turn o g] ++ [.keep 1] := by
  unfold addKeep
  simp
def keepIf (f : List (Bk α)) (k : Nat) : List (Bk α) := if 0 < k then f ++ [.keep k] else f
theorem blocks_go (a b e : List α) : ∀ (s : List (It α)) (pa pb out fresh : List α) (found : List (Bk α)) (kept : Nat),
    a = pa ++ (out ++ bas s) → b = pb ++ (fresh ++ row s e) → (kept = 0 → found = []) →
    pend ((prs s (pa.length + out.length) (pb.length + fresh.length) ++ [(a.length, b.length)]).foldl (pstep a b) ⟨found, pa.length, pb.length, kept⟩) = lend (s.foldl lstep ⟨keepIf found kept, out, fresh⟩) e
  | [], pa, pb, out, fresh, found, kept, ha, hb, hk => by
    have la : a.length = pa.length + out.length := by rw [ha]; simp [bas]
    have lb : b.length = pb.length + (fresh ++ e).length := by rw [hb]; simp [row]
    have s1 : sl a pa.length a.length = out := by
      rw [la, ha]; exact sl_mid _ _ _
    have s2 : sl b pb.length b.length = fresh ++ e := by
      rw [lb, hb]
      have := sl_mid pb (fresh ++ e) []
      rw [List.append_nil] at this
      exact this
    show pend (pstep a b ⟨found, pa.length, pb.length, kept⟩ (a.length, b.length)) = addTurn (keepIf found kept) out (fresh ++ e)
    unfold pstep
    simp only [s1, s2]
    unfold addTurn
    by_cases h : out ++ (fresh ++ e) = []
    · have h1 : out = [] := (List.append_eq_nil_iff.mp h).1
      have h2 : fresh ++ e = [] := (List.append_eq_nil_iff.mp h).2
      have c : ¬ (pa.length < a.length ∨ pb.length < b.length) := by
        rw [la, lb, h1, h2]; simp
      rw [if_neg c, if_pos h]
      unfold pend keepIf
      by_cases k0 : 0 < kept
      · simp only [if_pos (show 1 < kept + 1 by omega), if_pos k0, Nat.add_sub_cancel]
      · simp only [if_neg (show ¬ 1 < kept + 1 by omega), if_neg k0]
    · have c : pa.length < a.length ∨ pb.length < b.length := by
        rw [la, lb]
        rcases List.eq_nil_or_concat out with z | ⟨l, x, z⟩
        · refine .inr ?_
          rcases List.eq_nil_or_concat (fresh ++ e) with y | ⟨l, x, y⟩
          · exact absurd (by rw [z, y]; rfl) h
          · rw [y]; simp
        · exact .inl (by rw [z]; simp)
      rw [if_pos c, if_neg h]
      unfold pend keepIf
      simp only [if_neg (show ¬ 1 < 0 + 1 by omega)]
  | x :: s, pa, pb, out, fresh, found, kept, ha, hb, hk => by
    unfold prs
    cases kx : x.k with
    | false =>
      simp only [Bool.false_eq_true, if_false]
      have := blocks_go a b e s pa pb (out ++ [x.b]) (fresh ++ x.f) found kept (by rw [ha]; simp [bas]) (by rw [hb]; simp [row, kx]) hk
      rw [List.length_append, List.length_append, List.length_singleton, ← Nat.add_assoc, ← Nat.add_assoc] at this
      rw [this]
      show _ = lend (s.foldl lstep (lstep _ x)) e
      unfold lstep
      rw [kx]
      rfl
    | true =>
      simp only [if_true, List.cons_append, List.foldl_cons]
      have s1 : sl a pa.length (pa.length + out.length) = out := by rw [ha]; exact sl_mid _ _ _
      have s2 : sl b pb.length (pb.length + fresh.length + x.f.length) = fresh ++ x.f := by
        have := sl_mid pb (fresh ++ x.f) (x.b :: row s e)
        rw [List.length_append, ← Nat.add_assoc] at this
        rw [hb, show fresh ++ row (x :: s) e = (fresh ++ x.f) ++ (x.b :: row s e) by simp [row, kx]]
        exact this
      have go := fun found' kept' (h : kept' = 0 → found' = []) => blocks_go a b e s (pa ++ out ++ [x.b]) (pb ++ (fresh ++ x.f) ++ [x.b]) [] [] found' kept' (by rw [ha]; simp [bas]) (by rw [hb]; simp [row, kx]) h
      simp only [List.length_append, List.length_singleton, List.length_nil, Nat.add_zero, ← Nat.add_assoc] at go
      have hl : lstep ⟨keepIf found kept, out, fresh⟩ x = ⟨addKeep (addTurn (keepIf found kept) out (fresh ++ x.f)), [], []⟩ := by
        unfold lstep; rw [kx]; rfl
      rw [hl]
      have hp : ∀ st : PSt α, st = pstep a b ⟨found, pa.length, pb.length, kept⟩ (pa.length + out.length, pb.length + fresh.length + x.f.length) →
          keepIf st.found st.kept = addKeep (addTurn (keepIf found kept) out (fresh ++ x.f)) ∧ st.here = pa.length + out.length + 1 ∧ st.there = pb.length + fresh.length + x.f.length + 1 ∧ st.kept ≠ 0 := by
        intro st hst
        subst hst
        unfold pstep addTurn
        simp only [s1, s2]
        by_cases h : out ++ (fresh ++ x.f) = []
        · have h1 : out = [] := (List.append_eq_nil_iff.mp h).1
          have h2 : fresh = [] ∧ x.f = [] := List.append_eq_nil_iff.mp (List.append_eq_nil_iff.mp h).2
          have c : ¬ (pa.length < pa.length + out.length ∨ pb.length < pb.length + fresh.length + x.f.length) := by
            rw [h1, h2.1, h2.2]; simp
          rw [if_neg c, if_pos h]
          refine ⟨?_, rfl, rfl, by simp⟩
          unfold keepIf
          by_cases k0 : 0 < kept
          · simp only [if_pos k0, if_pos (show 0 < kept + 1 by omega), addKeep_keep]
          · have : kept = 0 := by omega
            subst this
            rw [hk rfl]
            rfl
        · have c : pa.length < pa.length + out.length ∨ pb.length < pb.length + fresh.length + x.f.length := by
            rcases List.eq_nil_or_concat out with z | ⟨l, y, z⟩
            · rcases List.eq_nil_or_concat fresh with z2 | ⟨l, y, z2⟩
              · rcases List.eq_nil_or_concat x.f with z3 | ⟨l, y, z3⟩
                · exact absurd (by rw [z, z2, z3]; rfl) h
                · exact .inr (by rw [z3]; simp; omega)
              · exact .inr (by rw [z2]; simp; omega)
            · exact .inl (by rw [z]; simp)
          rw [if_pos c, if_neg h]
          refine ⟨?_, rfl, rfl, by simp⟩
          unfold keepIf
          simp only [if_pos (show 0 < 0 + 1 by omega), addKeep_turn]
      generalize hst : pstep a b ⟨found, pa.length, pb.length, kept⟩ (pa.length + out.length, pb.length + fresh.length + x.f.length) = st
      obtain ⟨h1, h2, h3, h4⟩ := hp st hst.symm
      obtain ⟨f, h, t, k⟩ := st
      simp only at h1 h2 h3 h4
      subst h2
      subst h3
      rw [← h1]
      exact go f k (fun z => absurd z h4)
theorem blocks_eq (s : List (It α)) (e : List α) : blocksP (bas s) (row s e) (prs s 0 0) = blocksL s e :=
  blocks_go (bas s) (row s e) e s [] [] [] [] [] 0 rfl rfl (fun _ => rfl)

/-! ### what blocks do -/
inductive Way : List (Bk α) → List α → List α → Prop
  | nil : Way [] [] []
  | keep {bs : List (Bk α)} {a b : List α} (xs : List α) : xs ≠ [] → Way bs a b → Way (.keep xs.length :: bs) (xs ++ a) (xs ++ b)
  | turn {bs : List (Bk α)} {a b : List α} (o f : List α) : Way bs a b → Way (.turn o f :: bs) (o ++ a) (f ++ b)
theorem Way.app {x y : List (Bk α)} {a b c d : List α} (h : Way x a b) (k : Way y c d) : Way (x ++ y) (a ++ c) (b ++ d) := by
  induction h with
  | nil => exact k
  | keep xs n _ ih => simp only [List.cons_append, List.append_assoc]; exact .keep xs n ih
  | turn o f _ ih => simp only [List.cons_append, List.append_assoc]; exact .turn o f ih
theorem Way.last {x : List (Bk α)} {m : Nat} : ∀ {a b : List α}, Way (x ++ [.keep m]) a b → ∃ a' b' xs, xs ≠ [] ∧ xs.length = m ∧ a = a' ++ xs ∧ b = b' ++ xs ∧ Way x a' b' := by
  induction x with
  | nil =>
    intro a b h
    cases h with
    | keep xs n h2 =>
      cases h2
      exact ⟨[], [], xs, n, rfl, by simp, by simp, .nil⟩
  | cons y x ih =>
    intro a b h
    cases h with
    | keep xs n h2 =>
      obtain ⟨a', b', ys, n2, h3, h4, h5, h6⟩ := ih h2
      exact ⟨xs ++ a', xs ++ b', ys, n2, h3, by rw [h4, List.append_assoc], by rw [h5, List.append_assoc], .keep xs n h6⟩
    | turn o f h2 =>
      obtain ⟨a', b', ys, n2, h3, h4, h5, h6⟩ := ih h2
      exact ⟨o ++ a', f ++ b', ys, n2, h3, by rw [h4, List.append_assoc], by rw [h5, List.append_assoc], .turn o f h6⟩
theorem Way.addTurn {x : List (Bk α)} {a b o f : List α} (h : Way x a b) : Way (addTurn x o f) (a ++ o) (b ++ f) := by
  unfold Mg.addTurn
  split
  · rename_i e
    rw [(List.append_eq_nil_iff.mp e).1, (List.append_eq_nil_iff.mp e).2, List.append_nil, List.append_nil]
    exact h
  · have := h.app (.turn o f .nil)
    simpa using this
theorem Way.addKeep {x : List (Bk α)} {a b : List α} {y : α} (h : Way x a b) : Way (addKeep x) (a ++ [y]) (b ++ [y]) := by
  unfold Mg.addKeep
  split
  · rename_i m e
    have e2 : x = x.dropLast ++ [.keep m] := by
      rcases List.eq_nil_or_concat x with z | ⟨l, w, z⟩
      · rw [z] at e; cases e
      · rw [z, List.concat_eq_append] at e ⊢
        rw [List.getLast?_concat] at e
        cases e
        rw [List.dropLast_concat]
    rw [e2] at h
    obtain ⟨a', b', xs, n, h1, h2, h3, h4⟩ := h.last
    have := h4.app (.keep (xs ++ [y]) (by simp) .nil)
    rw [h2, h3]
    simpa [h1] using this
  · have := h.app (.keep [y] (by simp) .nil)
    simpa using this
theorem way_go (e : List α) : ∀ (s : List (It α)) (found : List (Bk α)) (out fresh a b : List α), Way found a b → Way (lend (s.foldl lstep ⟨found, out, fresh⟩) e) (a ++ (out ++ bas s)) (b ++ (fresh ++ row s e))
  | [], found, out, fresh, a, b, h => by
    have := h.addTurn (o := out) (f := fresh ++ e)
    simpa [bas, row, lend] using this
  | x :: s, found, out, fresh, a, b, h => by
    rw [List.foldl_cons]
    cases k : x.k with
    | false =>
      rw [show lstep ⟨found, out, fresh⟩ x = ⟨found, out ++ [x.b], fresh ++ x.f⟩ by unfold lstep; rw [k]; rfl]
      have := way_go e s found (out ++ [x.b]) (fresh ++ x.f) a b h
      simpa [bas, row, k] using this
    | true =>
      rw [show lstep ⟨found, out, fresh⟩ x = ⟨addKeep (addTurn found out (fresh ++ x.f)), [], []⟩ by unfold lstep; rw [k]; rfl]
      have := way_go e s (addKeep (addTurn found out (fresh ++ x.f))) [] [] (a ++ out ++ [x.b]) (b ++ (fresh ++ x.f) ++ [x.b]) (h.addTurn.addKeep)
      simpa [bas, row, k] using this
theorem way_of (s : List (It α)) (e : List α) : Way (blocksL s e) (bas s) (row s e) := way_go e s [] [] [] [] [] .nil
def back : Bk α → Bk α
  | .keep n => .keep n
  | .turn o f => .turn f o
theorem Way.back {x : List (Bk α)} {a b : List α} (h : Way x a b) : Way (x.map back) b a := by
  induction h with
  | nil => exact .nil
  | keep xs n _ ih => exact .keep xs n ih
  | turn o f _ ih => exact .turn f o ih
/-- what stands in blocks -/
theorem Way.sub {x : List (Bk α)} {a b : List α} (h : Way x a b) : ∀ o f, Bk.turn o f ∈ x → o.length ≤ a.length ∧ f.length ≤ b.length ∧ (∀ y ∈ o, y ∈ a) ∧ (∀ y ∈ f, y ∈ b) := by
  induction h with
  | nil => intro o f h; cases h
  | keep xs n _ ih =>
    intro o f h
    rcases List.mem_cons.mp h with e | m
    · cases e
    · obtain ⟨h1, h2, h3, h4⟩ := ih o f m
      exact ⟨by simp; omega, by simp; omega, fun y hy => List.mem_append_right _ (h3 y hy), fun y hy => List.mem_append_right _ (h4 y hy)⟩
  | turn o' f' _ ih =>
    intro o f h
    rcases List.mem_cons.mp h with e | m
    · cases e
      exact ⟨by simp, by simp, fun y hy => List.mem_append_left _ hy, fun y hy => List.mem_append_left _ hy⟩
    · obtain ⟨h1, h2, h3, h4⟩ := ih o f m
      exact ⟨by simp; omega, by simp; omega, fun y hy => List.mem_append_right _ (h3 y hy), fun y hy => List.mem_append_right _ (h4 y hy)⟩
theorem Way.pos {x : List (Bk α)} {a b : List α} (h : Way x a b) : ∀ n, Bk.keep n ∈ x → 0 < n ∧ n ≤ a.length := by
  induction h with
  | nil => intro n h; cases h
  | keep xs ne _ ih =>
    intro n h
    rcases List.mem_cons.mp h with e | m
    · cases e
      exact ⟨List.length_pos_iff.mpr ne, by simp⟩
    · have := ih n m; exact ⟨this.1, by simp; omega⟩
  | turn o f _ ih =>
    intro n h
    rcases List.mem_cons.mp h with e | m
    · cases e
    · have := ih n m; exact ⟨this.1, by simp; omega⟩
theorem addTurn_len (x : List (Bk α)) (o f : List α) : (addTurn x o f).length ≤ x.length + 1 := by
  unfold addTurn
  split <;> simp
theorem addKeep_len (x : List (Bk α)) : (addKeep x).length ≤ x.length + 1 := by
  unfold addKeep
  split <;> simp
theorem blocks_len (s : List (It α)) (e : List α) : (blocksL s e).length ≤ 2 * s.length + 1 := by
  have : ∀ (s : List (It α)) (st : LSt α), (s.foldl lstep st).found.length ≤ st.found.length + 2 * s.length := by
    intro s
    induction s with
    | nil => intro st; simp
    | cons x s ih =>
      intro st
      rw [List.foldl_cons]
      have h := ih (lstep st x)
      have : (lstep st x).found.length ≤ st.found.length + 2 := by
        unfold lstep
        split
        · have h1 := addKeep_len (addTurn st.found st.out (st.fresh ++ x.f))
          have h2 := addTurn_len st.found st.out (st.fresh ++ x.f)
          simp only; omega
        · simp
      simp only [List.length_cons]; omega
  have h := this s ⟨[], [], []⟩
  have h2 := addTurn_len (s.foldl lstep ⟨[], [], []⟩).found (s.foldl lstep ⟨[], [], []⟩).out ((s.foldl lstep ⟨[], [], []⟩).fresh ++ e)
  unfold blocksL lend
  simp only [List.length_nil] at h
  omega
end Mg

set_option Elab.async false
set_option linter.all false
/-! Mg3: two edits brought together, by places and by items. -/
namespace Mg
variable {α : Type}

structure It3 (α : Type) where
  b : α
  f : List α
  k : Bool
  g : List α
  l : Bool
def It3.one (x : It3 α) : It α := ⟨x.b, x.f, x.k⟩
def It3.two (x : It3 α) : It α := ⟨x.b, x.g, x.l⟩
def bas3 (s : List (It3 α)) : List α := s.map (·.b)
theorem bas_one (s : List (It3 α)) : bas (s.map It3.one) = bas3 s := by simp [bas, bas3, It3.one]
theorem bas_two (s : List (It3 α)) : bas (s.map It3.two) = bas3 s := by simp [bas, bas3, It3.two]
def nk (k : Bool) : Nat := if k then 1 else 0
def tri : List (It3 α) → Nat → Nat → Nat → List (Nat × Nat × Nat)
  | [], _, _, _ => []
  | x :: s, i, j, m => if x.k && x.l then (i, j + x.f.length, m + x.g.length) :: tri s (i + 1) (j + x.f.length + nk x.k) (m + x.g.length + nk x.l) else tri s (i + 1) (j + x.f.length + nk x.k) (m + x.g.length + nk x.l)
def lk (ps : List (Nat × Nat)) (i : Nat) : Option Nat := (ps.find? fun p => decide (p.1 = i)).map (·.2)
theorem lk_none {s : List (It α)} {i j i' : Nat} (h : i' < i) : lk (prs s i j) i' = none := by
  unfold lk
  rw [Option.map_eq_none_iff, List.find?_eq_none]
  intro p hp e
  have := prs_lb s i j p hp
  simp only [decide_eq_true_eq] at e
  omega
theorem prs_cons (x : It α) (s : List (It α)) (i j : Nat) : prs (x :: s) i j = if x.k then (i, j + x.f.length) :: prs s (i + 1) (j + x.f.length + 1) else prs s (i + 1) (j + x.f.length) := rfl
theorem lk_cons {x : It α} {s : List (It α)} {i j i' : Nat} (h : i < i') : lk (prs (x :: s) i j) i' = lk (prs s (i + 1) (j + x.f.length + nk x.k)) i' := by
  rw [prs_cons]
  unfold nk
  cases x.k with
  | true =>
    simp only [if_true]
    unfold lk
    rw [List.find?_cons]
    have : decide ((i, j + x.f.length).1 = i') = false := by simp; omega
    rw [this]
  | false => simp
theorem lk_head {x : It α} {s : List (It α)} {i j : Nat} : lk (prs (x :: s) i j) i = if x.k then some (j + x.f.length) else none := by
  unfold prs
  cases x.k with
  | true =>
    simp only [if_true]
    unfold lk
    rw [List.find?_cons]
    simp
  | false => simpa using lk_none (by omega)
def good (ps qs : List (Nat × Nat)) (i : Nat) : Bool := (lk ps i).isSome && (lk qs i).isSome
def trip (ps qs : List (Nat × Nat)) (i : Nat) : Nat × Nat × Nat := (i, (lk ps i).getD 0, (lk qs i).getD 0)
theorem tri_go : ∀ (s : List (It3 α)) (i j m : Nat), ((List.range' i s.length).filter (good (prs (s.map It3.one) i j) (prs (s.map It3.two) i m))).map (trip (prs (s.map It3.one) i j) (prs (s.map It3.two) i m)) = tri s i j m
  | [], _, _, _ => rfl
  | x :: s, i, j, m => by
    have ih := tri_go s (i + 1) (j + x.f.length + nk x.k) (m + x.g.length + nk x.l)
    have c1 : ∀ a ∈ List.range' (i + 1) s.length, good (prs ((x :: s).map It3.one) i j) (prs ((x :: s).map It3.two) i m) a = good (prs (s.map It3.one) (i + 1) (j + x.f.length + nk x.k)) (prs (s.map It3.two) (i + 1) (m + x.g.length + nk x.l)) a := fun a ha => by
      have ha := List.mem_range'_1.mp ha
      unfold good
      rw [List.map_cons, List.map_cons, lk_cons (by omega), lk_cons (by omega)]
      rfl
    have c2 : ∀ a ∈ List.range' (i + 1) s.length, trip (prs ((x :: s).map It3.one) i j) (prs ((x :: s).map It3.two) i m) a = trip (prs (s.map It3.one) (i + 1) (j + x.f.length + nk x.k)) (prs (s.map It3.two) (i + 1) (m + x.g.length + nk x.l)) a := fun a ha => by
      have ha := List.mem_range'_1.mp ha
      unfold trip
      rw [List.map_cons, List.map_cons, lk_cons (by omega), lk_cons (by omega)]
      rfl
    have e1 : (List.range' (i + 1) s.length).filter (good (prs ((x :: s).map It3.one) i j) (prs ((x :: s).map It3.two) i m)) = (List.range' (i + 1) s.length).filter (good (prs (s.map It3.one) (i + 1) (j + x.f.length + nk x.k)) (prs (s.map It3.two) (i + 1) (m + x.g.length + nk x.l))) := List.filter_congr c1
    have e2 : ((List.range' (i + 1) s.length).filter (good (prs ((x :: s).map It3.one) i j) (prs ((x :: s).map It3.two) i m))).map (trip (prs ((x :: s).map It3.one) i j) (prs ((x :: s).map It3.two) i m)) = tri s (i + 1) (j + x.f.length + nk x.k) (m + x.g.length + nk x.l) := by
      rw [← ih, e1]
      exact List.map_congr_left fun a ha => c2 a (List.mem_filter.mp ha).1
    have hh : good (prs ((x :: s).map It3.one) i j) (prs ((x :: s).map It3.two) i m) i = (x.k && x.l) := by
      unfold good
      rw [List.map_cons, List.map_cons, lk_head, lk_head]
      show ((if x.k = true then _ else _ : Option Nat).isSome && (if x.l = true then _ else _ : Option Nat).isSome) = _
      cases x.k <;> cases x.l <;> rfl
    rw [List.length_cons, List.range'_succ, List.filter_cons, hh]
    unfold tri
    cases hkl : x.k && x.l with
    | false => simpa using e2
    | true =>
      refine (congr (congrArg List.cons ?_) e2 : _)
      have h1 : x.k = true := by revert hkl; cases x.k <;> simp
      have h2 : x.l = true := by revert hkl; cases x.l <;> simp
      unfold trip
      rw [List.map_cons, List.map_cons, lk_head, lk_head]
      show (i, (if x.k = true then some (j + x.f.length) else none : Option Nat).getD 0, (if x.l = true then some (m + x.g.length) else none : Option Nat).getD 0) = _
      rw [h1, h2]
      rfl
theorem tri_eq (s : List (It3 α)) : ((List.range s.length).filter (good (prs (s.map It3.one) 0 0) (prs (s.map It3.two) 0 0))).map (trip (prs (s.map It3.one) 0 0) (prs (s.map It3.two) 0 0)) = tri s 0 0 0 := by
  rw [List.range_eq_range']
  exact tri_go s 0 0 0

section
variable [DecidableEq α]
abbrev Cl (α : Type) := Nat × Nat × List α × List α
structure MSt (α : Type) where
  found : List α
  cls : List (Cl α)
  h0 : Nat
  h1 : Nat
  h2 : Nat
/-- what is taken: base, one, other -/
def taken (a b c : List α) : Option (List α) := if b = a then some c else if c = a ∨ c = b then some b else none
def mstep (a b c : List α) (st : MSt α) (p : Nat × Nat × Nat) : MSt α :=
  match taken (sl a st.h0 p.1) (sl b st.h1 p.2.1) (sl c st.h2 p.2.2) with
  | some t => ⟨st.found ++ t ++ sl a p.1 (p.1 + 1), st.cls, p.1 + 1, p.2.1 + 1, p.2.2 + 1⟩
  | none => ⟨st.found ++ sl a p.1 (p.1 + 1), st.cls ++ [(st.h0, p.1, sl b st.h1 p.2.1, sl c st.h2 p.2.2)], p.1 + 1, p.2.1 + 1, p.2.2 + 1⟩
def resP (st : MSt α) : List α × List (Cl α) := (st.found, st.cls)
def mergeP (a b c : List α) (ts : List (Nat × Nat × Nat)) : List α × List (Cl α) := resP ((ts ++ [(a.length, b.length, c.length)]).foldl (mstep a b c) ⟨[], [], 0, 0, 0⟩)
structure NSt (α : Type) where
  row : List α
  cls : List (Cl α)
  beg : Nat
  at_ : Nat
  out : List α
  p : List α
  q : List α
/-- what becomes of the parts between kept texts: the row, the clashes -/
def closeR (row out p q : List α) : List α := if p = out ∨ p = q then row ++ q else if q = out then row ++ p else row
def closeC (cls : List (Cl α)) (beg at_ : Nat) (out p q : List α) : List (Cl α) := if p = out ∨ p = q then cls else if q = out then cls else cls ++ [(beg, at_, p, q)]
def nstep (st : NSt α) (x : It3 α) : NSt α :=
  if x.k && x.l then ⟨closeR st.row st.out (st.p ++ x.f) (st.q ++ x.g) ++ [x.b], closeC st.cls st.beg st.at_ st.out (st.p ++ x.f) (st.q ++ x.g), st.at_ + 1, st.at_ + 1, [], [], []⟩
  else ⟨st.row, st.cls, st.beg, st.at_ + 1, st.out ++ [x.b], st.p ++ x.f ++ (if x.k then [x.b] else []), st.q ++ x.g ++ (if x.l then [x.b] else [])⟩
def nend (st : NSt α) (e1 e2 : List α) : List α × List (Cl α) := (closeR st.row st.out (st.p ++ e1) (st.q ++ e2), closeC st.cls st.beg st.at_ st.out (st.p ++ e1) (st.q ++ e2))
def mergeL (s : List (It3 α)) (e1 e2 : List α) : List α × List (Cl α) := nend (s.foldl nstep ⟨[], [], 0, 0, [], [], []⟩) e1 e2

theorem taken_close (a b c row : List α) (cls : List (Cl α)) (beg at_ : Nat) :
    (match taken a b c with | some t => row ++ t | none => row) = closeR row a b c ∧ (match taken a b c with | some _ => cls | none => cls ++ [(beg, at_, b, c)]) = closeC cls beg at_ a b c := by
  unfold taken closeR closeC
  by_cases h1 : b = a
  · simp [h1]
  · by_cases h2 : c = a
    · by_cases h3 : b = c
      · exact absurd (h3.trans h2) h1
      · subst h2; simp [h1]
    · by_cases h3 : c = b
      · subst h3; simp [h1]
      · have h4 : ¬ b = c := fun e => h3 e.symm
        simp [h1, h2, h3, h4]
theorem mstep_eq {a b c : List α} {st : MSt α} {p : Nat × Nat × Nat} {o x y z : List α} (h0 : sl a st.h0 p.1 = o) (h1 : sl b st.h1 p.2.1 = x) (h2 : sl c st.h2 p.2.2 = y) (h3 : sl a p.1 (p.1 + 1) = z) :
    mstep a b c st p = ⟨closeR st.found o x y ++ z, closeC st.cls st.h0 p.1 o x y, p.1 + 1, p.2.1 + 1, p.2.2 + 1⟩ := by
  obtain ⟨e1, e2⟩ := taken_close o x y st.found st.cls st.h0 p.1
  unfold mstep
  rw [h0, h1, h2, h3]
  rw [← e1, ← e2]
  cases taken o x y <;> simp
theorem merge_go (a b c e1 e2 : List α) : ∀ (s : List (It3 α)) (pa pb pc out p q found : List α) (cls : List (Cl α)),
    a = pa ++ (out ++ bas3 s) → b = pb ++ (p ++ row (s.map It3.one) e1) → c = pc ++ (q ++ row (s.map It3.two) e2) →
    resP ((tri s (pa.length + out.length) (pb.length + p.length) (pc.length + q.length) ++ [(a.length, b.length, c.length)]).foldl (mstep a b c) ⟨found, cls, pa.length, pb.length, pc.length⟩) = nend (s.foldl nstep ⟨found, cls, pa.length, pa.length + out.length, out, p, q⟩) e1 e2
  | [], pa, pb, pc, out, p, q, found, cls, ha, hb, hc => by
    have la : a.length = pa.length + out.length := by rw [ha]; simp [bas3]
    have lb : b.length = pb.length + (p ++ e1).length := by rw [hb]; simp [row]
    have lc : c.length = pc.length + (q ++ e2).length := by rw [hc]; simp [row]
    have s1 : sl a pa.length a.length = out := by rw [la, ha]; exact sl_mid _ _ _
    have s2 : sl b pb.length b.length = p ++ e1 := by
      have := sl_mid pb (p ++ e1) []
      rw [List.append_nil] at this
      rw [lb, hb]; exact this
    have s3 : sl c pc.length c.length = q ++ e2 := by
      have := sl_mid pc (q ++ e2) []
      rw [List.append_nil] at this
      rw [lc, hc]; exact this
    have s4 : sl a a.length (a.length + 1) = [] := by
      unfold sl; rw [List.drop_length, List.take_nil]
    show ((mstep a b c ⟨found, cls, pa.length, pb.length, pc.length⟩ (a.length, b.length, c.length)).found, (mstep a b c ⟨found, cls, pa.length, pb.length, pc.length⟩ (a.length, b.length, c.length)).cls) = _
    rw [mstep_eq (p := (a.length, b.length, c.length)) s1 s2 s3 s4]
    simp only [List.append_nil]
    rw [la]
    rfl
  | x :: s, pa, pb, pc, out, p, q, found, cls, ha, hb, hc => by
    unfold tri
    rw [List.foldl_cons]
    cases kx : x.k && x.l with
    | false =>
      simp only [Bool.false_eq_true, if_false]
      have := merge_go a b c e1 e2 s pa pb pc (out ++ [x.b]) (p ++ x.f ++ (if x.k then [x.b] else [])) (q ++ x.g ++ (if x.l then [x.b] else [])) found cls
        (by rw [ha]; simp [bas3]) (by rw [hb]; simp [row, It3.one]) (by rw [hc]; simp [row, It3.two])
      have lk1 : (if x.k then [x.b] else []).length = nk x.k := by unfold nk; cases x.k <;> rfl
      have ll1 : (if x.l then [x.b] else []).length = nk x.l := by unfold nk; cases x.l <;> rfl
      simp only [List.length_append, List.length_singleton, lk1, ll1, ← Nat.add_assoc] at this
      rw [this]
      unfold nstep
      rw [kx]
      simp
    | true =>
      simp only [if_true, List.cons_append, List.foldl_cons]
      have k1 : x.k = true := by revert kx; cases x.k <;> simp
      have k2 : x.l = true := by revert kx; cases x.l <;> simp
      have s1 : sl a pa.length (pa.length + out.length) = out := by rw [ha]; exact sl_mid _ _ _
      have s2 : sl b pb.length (pb.length + p.length + x.f.length) = p ++ x.f := by
        have := sl_mid pb (p ++ x.f) (x.b :: row (s.map It3.one) e1)
        rw [List.length_append, ← Nat.add_assoc] at this
        rw [hb, show p ++ row ((x :: s).map It3.one) e1 = (p ++ x.f) ++ (x.b :: row (s.map It3.one) e1) by simp [row, It3.one, k1]]
        exact this
      have s3 : sl c pc.length (pc.length + q.length + x.g.length) = q ++ x.g := by
        have := sl_mid pc (q ++ x.g) (x.b :: row (s.map It3.two) e2)
        rw [List.length_append, ← Nat.add_assoc] at this
        rw [hc, show q ++ row ((x :: s).map It3.two) e2 = (q ++ x.g) ++ (x.b :: row (s.map It3.two) e2) by simp [row, It3.two, k2]]
        exact this
      have s4 : sl a (pa.length + out.length) (pa.length + out.length + 1) = [x.b] := by
        have := sl_mid (pa ++ out) [x.b] (bas3 s)
        rw [List.length_append, List.length_singleton] at this
        rw [ha, show pa ++ (out ++ bas3 (x :: s)) = (pa ++ out) ++ ([x.b] ++ bas3 s) by simp [bas3]]
        exact this
      rw [mstep_eq (st := ⟨found, cls, pa.length, pb.length, pc.length⟩) (p := (pa.length + out.length, pb.length + p.length + x.f.length, pc.length + q.length + x.g.length)) s1 s2 s3 s4]
      have go := merge_go a b c e1 e2 s (pa ++ out ++ [x.b]) (pb ++ (p ++ x.f) ++ [x.b]) (pc ++ (q ++ x.g) ++ [x.b]) [] [] [] (closeR found out (p ++ x.f) (q ++ x.g) ++ [x.b]) (closeC cls pa.length (pa.length + out.length) out (p ++ x.f) (q ++ x.g))
        (by rw [ha]; simp [bas3]) (by rw [hb]; simp [row, It3.one, k1]) (by rw [hc]; simp [row, It3.two, k2])
      simp only [List.length_append, List.length_singleton, List.length_nil, Nat.add_zero, ← Nat.add_assoc] at go
      have n1 : nk x.k = 1 := by rw [k1]; rfl
      have n2 : nk x.l = 1 := by rw [k2]; rfl
      rw [n1, n2]
      rw [go]
      unfold nstep
      rw [kx]
      simp
theorem merge_eq (s : List (It3 α)) (e1 e2 : List α) : mergeP (bas3 s) (row (s.map It3.one) e1) (row (s.map It3.two) e2) (tri s 0 0 0) = mergeL s e1 e2 :=
  merge_go _ _ _ e1 e2 s [] [] [] [] [] [] [] [] rfl rfl rfl
end

/-! ### the same with other texts, the edits exchanged -/
section
variable [DecidableEq α]
def It3.sw (φ : α → α) (x : It3 α) : It3 α := ⟨φ x.b, x.g.map φ, x.l, x.f.map φ, x.k⟩
def clsw (φ : α → α) (c : Cl α) : Cl α := (c.1, c.2.1, c.2.2.2.map φ, c.2.2.1.map φ)
variable {φ : α → α}
theorem map_inj (inj : ∀ x y, φ x = φ y → x = y) {l m : List α} : l.map φ = m.map φ ↔ l = m := by
  refine ⟨fun h => ?_, fun h => by rw [h]⟩
  induction l generalizing m with
  | nil => cases m with
    | nil => rfl
    | cons y m => simp at h
  | cons x l ih => cases m with
    | nil => simp at h
    | cons y m =>
      rw [List.map_cons, List.map_cons, List.cons.injEq] at h
      rw [inj _ _ h.1, ih h.2]
theorem closeR_sw (inj : ∀ x y, φ x = φ y → x = y) (row out p q : List α) : closeR (row.map φ) (out.map φ) (q.map φ) (p.map φ) = (closeR row out p q).map φ := by
  unfold closeR
  simp only [map_inj inj]
  by_cases h1 : p = out
  · by_cases h2 : q = out
    · simp [h1, h2]
    · by_cases h3 : q = p
      · exact absurd (h3.trans h1) h2
      · simp [h1, h2]
  · by_cases h2 : q = out
    · subst h2; simp [h1]
    · by_cases h3 : p = q
      · subst h3; simp [h1]
      · have h4 : ¬ q = p := fun e => h3 e.symm
        simp [h1, h2, h3, h4]
theorem closeC_sw (inj : ∀ x y, φ x = φ y → x = y) (cls : List (Cl α)) (beg at_ : Nat) (out p q : List α) : closeC (cls.map (clsw φ)) beg at_ (out.map φ) (q.map φ) (p.map φ) = (closeC cls beg at_ out p q).map (clsw φ) := by
  unfold closeC
  simp only [map_inj inj]
  by_cases h1 : p = out
  · by_cases h2 : q = out
    · simp [h1, h2]
    · by_cases h3 : q = p
      · exact absurd (h3.trans h1) h2
      · simp [h1, h2]
  · by_cases h2 : q = out
    · subst h2; simp [h1]
    · by_cases h3 : p = q
      · subst h3; simp [h1]
      · have h4 : ¬ q = p := fun e => h3 e.symm
        simp [h1, h2, h3, h4, clsw]
def NSt.sw (φ : α → α) (st : NSt α) : NSt α := ⟨st.row.map φ, st.cls.map (clsw φ), st.beg, st.at_, st.out.map φ, st.q.map φ, st.p.map φ⟩
theorem nstep_sw (inj : ∀ x y, φ x = φ y → x = y) (st : NSt α) (x : It3 α) : nstep (st.sw φ) (x.sw φ) = (nstep st x).sw φ := by
  unfold nstep NSt.sw It3.sw
  simp only [← List.map_append, closeR_sw inj, closeC_sw inj]
  rw [Bool.and_comm]
  by_cases h : (x.k && x.l) = true
  · simp [h]
  · simp only [h, if_false]
    cases x.k <;> cases x.l <;> simp
theorem merge_sw (inj : ∀ x y, φ x = φ y → x = y) (s : List (It3 α)) (e1 e2 : List α) : mergeL (s.map (It3.sw φ)) (e2.map φ) (e1.map φ) = ((mergeL s e1 e2).1.map φ, (mergeL s e1 e2).2.map (clsw φ)) := by
  have : ∀ (s : List (It3 α)) (st : NSt α), (s.map (It3.sw φ)).foldl nstep (st.sw φ) = (s.foldl nstep st).sw φ := by
    intro s
    induction s with
    | nil => intro st; rfl
    | cons x s ih => intro st; rw [List.map_cons, List.foldl_cons, List.foldl_cons, nstep_sw inj, ih]
  have h := this s ⟨[], [], 0, 0, [], [], []⟩
  have h : (s.map (It3.sw φ)).foldl nstep ⟨[], [], 0, 0, [], [], []⟩ = NSt.sw φ (s.foldl nstep ⟨[], [], 0, 0, [], [], []⟩) := h
  unfold mergeL
  rw [h]
  generalize s.foldl nstep ⟨[], [], 0, 0, [], [], []⟩ = st
  unfold nend NSt.sw
  simp only [← List.map_append, closeR_sw inj, closeC_sw inj]
theorem bas3_sw (s : List (It3 α)) : bas3 (s.map (It3.sw φ)) = (bas3 s).map φ := by simp [bas3, It3.sw]
theorem row_sw1 (e1 e2 : List α) : ∀ s : List (It3 α), row ((s.map (It3.sw φ)).map It3.one) (e2.map φ) = (row (s.map It3.two) e2).map φ
  | [] => rfl
  | x :: s => by
    have ih := row_sw1 e1 e2 s
    simp only [List.map_cons, row, It3.sw, It3.one, It3.two, List.map_append]
    cases x.l <;> simp_all [It3.sw]
theorem row_sw2 (e1 e2 : List α) : ∀ s : List (It3 α), row ((s.map (It3.sw φ)).map It3.two) (e1.map φ) = (row (s.map It3.one) e1).map φ
  | [] => rfl
  | x :: s => by
    have ih := row_sw2 e1 e2 s
    simp only [List.map_cons, row, It3.sw, It3.one, It3.two, List.map_append]
    cases x.k <;> simp_all [It3.sw]
end

/-! ### what is in the outcome -/
section
variable [DecidableEq α]
def clsum (cls : List (Cl α)) : Nat := (cls.map fun c => c.2.2.1.length + c.2.2.2.length).sum
def used (s : List (It3 α)) : Nat := (s.map fun x => x.f.length + x.g.length + nk x.k + nk x.l).sum
theorem close_size (row : List α) (cls : List (Cl α)) (beg at_ : Nat) (out p q : List α) :
    (closeR row out p q).length + clsum (closeC cls beg at_ out p q) ≤ row.length + clsum cls + p.length + q.length ∧ (closeC cls beg at_ out p q).length ≤ cls.length + 1 := by
  unfold closeR closeC clsum
  by_cases h1 : p = out ∨ p = q
  · rw [if_pos h1, if_pos h1]; simp only [List.length_append]; omega
  · rw [if_neg h1, if_neg h1]
    by_cases h2 : q = out
    · rw [if_pos h2, if_pos h2]; simp only [List.length_append]; omega
    · rw [if_neg h2, if_neg h2]; simp; omega
theorem merge_size (s : List (It3 α)) (e1 e2 : List α) : (mergeL s e1 e2).1.length + clsum (mergeL s e1 e2).2 ≤ used s + e1.length + e2.length ∧ (mergeL s e1 e2).2.length ≤ s.length + 1 := by
  have : ∀ (s : List (It3 α)) (st : NSt α), (s.foldl nstep st).row.length + clsum (s.foldl nstep st).cls + (s.foldl nstep st).p.length + (s.foldl nstep st).q.length ≤ st.row.length + clsum st.cls + st.p.length + st.q.length + used s ∧ (s.foldl nstep st).cls.length ≤ st.cls.length + s.length := by
    intro s
    induction s with
    | nil => intro st; simp [used]
    | cons x s ih =>
      intro st
      rw [List.foldl_cons]
      obtain ⟨h1, h2⟩ := ih (nstep st x)
      have h3 : (nstep st x).row.length + clsum (nstep st x).cls + (nstep st x).p.length + (nstep st x).q.length ≤ st.row.length + clsum st.cls + st.p.length + st.q.length + (x.f.length + x.g.length + nk x.k + nk x.l) ∧ (nstep st x).cls.length ≤ st.cls.length + 1 := by
        unfold nstep
        by_cases h : (x.k && x.l) = true
        · have k1 : x.k = true := by revert h; cases x.k <;> simp
          have k2 : x.l = true := by revert h; cases x.l <;> simp
          have := close_size st.row st.cls st.beg st.at_ st.out (st.p ++ x.f) (st.q ++ x.g)
          simp only [List.length_append] at this
          rw [if_pos h]
          simp only [List.length_append, List.length_singleton, List.length_nil, k1, k2, nk, if_true]
          omega
        · rw [if_neg h]
          refine ⟨?_, by simp⟩
          cases x.k <;> cases x.l <;> simp [nk] <;> omega
      have h4 : used (x :: s) = (x.f.length + x.g.length + nk x.k + nk x.l) + used s := by simp [used]
      simp only [List.length_cons]
      omega
  obtain ⟨h1, h2⟩ := this s ⟨[], [], 0, 0, [], [], []⟩
  have h3 := close_size (s.foldl nstep ⟨[], [], 0, 0, [], [], []⟩).row (s.foldl nstep ⟨[], [], 0, 0, [], [], []⟩).cls (s.foldl nstep ⟨[], [], 0, 0, [], [], []⟩).beg (s.foldl nstep ⟨[], [], 0, 0, [], [], []⟩).at_ (s.foldl nstep ⟨[], [], 0, 0, [], [], []⟩).out
    ((s.foldl nstep ⟨[], [], 0, 0, [], [], []⟩).p ++ e1) ((s.foldl nstep ⟨[], [], 0, 0, [], [], []⟩).q ++ e2)
  simp only [List.length_append] at h3
  unfold mergeL nend
  simp only [List.length_nil, clsum, List.map_nil, List.sum_nil] at h1 h2 h3 ⊢
  omega
theorem used_eq : ∀ (s : List (It3 α)) (e1 e2 : List α), used s + e1.length + e2.length = (row (s.map It3.one) e1).length + (row (s.map It3.two) e2).length
  | [], e1, e2 => by simp [used, row]
  | x :: s, e1, e2 => by
    have := used_eq s e1 e2
    have h4 : used (x :: s) = (x.f.length + x.g.length + nk x.k + nk x.l) + used s := by simp [used]
    simp only [List.map_cons, row, It3.one, It3.two, List.length_append]
    obtain ⟨b, f, k, g, l⟩ := x
    cases k <;> cases l <;> simp [nk] at h4 ⊢ <;> omega
/-- every text of the outcome is one of those given -/
theorem merge_mem (P : α → Prop) (s : List (It3 α)) (e1 e2 : List α) (hs : ∀ x ∈ s, P x.b ∧ (∀ y ∈ x.f, P y) ∧ (∀ y ∈ x.g, P y)) (h1 : ∀ y ∈ e1, P y) (h2 : ∀ y ∈ e2, P y) :
    (∀ y ∈ (mergeL s e1 e2).1, P y) ∧ (∀ c ∈ (mergeL s e1 e2).2, (∀ y ∈ c.2.2.1, P y) ∧ (∀ y ∈ c.2.2.2, P y) ∧ c.1 ≤ s.length ∧ c.2.1 ≤ s.length) := by
  let J := fun (n : Nat) (row : List α) (cls : List (Cl α)) => (∀ y ∈ row, P y) ∧ (∀ c ∈ cls, (∀ y ∈ c.2.2.1, P y) ∧ (∀ y ∈ c.2.2.2, P y) ∧ c.1 ≤ n ∧ c.2.1 ≤ n)
  have cl : ∀ (n : Nat) (row : List α) (cls : List (Cl α)) (beg at_ : Nat) (out p q : List α), J n row cls → (∀ y ∈ p, P y) → (∀ y ∈ q, P y) → beg ≤ n → at_ ≤ n → J n (closeR row out p q) (closeC cls beg at_ out p q) := by
    intro n row cls beg at_ out p q h hp hq hb ha
    unfold closeR closeC
    by_cases c1 : p = out ∨ p = q
    · rw [if_pos c1, if_pos c1]
      exact ⟨fun y hy => (List.mem_append.mp hy).elim (h.1 y) (hq y), h.2⟩
    · rw [if_neg c1, if_neg c1]
      by_cases c2 : q = out
      · rw [if_pos c2, if_pos c2]
        exact ⟨fun y hy => (List.mem_append.mp hy).elim (h.1 y) (hp y), h.2⟩
      · rw [if_neg c2, if_neg c2]
        refine ⟨h.1, fun c hc => ?_⟩
        rcases List.mem_append.mp hc with m | m
        · exact h.2 c m
        · rw [List.mem_singleton.mp m]
          exact ⟨hp, hq, hb, ha⟩
  have : ∀ (s : List (It3 α)) (n : Nat) (st : NSt α), (∀ x ∈ s, P x.b ∧ (∀ y ∈ x.f, P y) ∧ (∀ y ∈ x.g, P y)) → J n st.row st.cls → (∀ y ∈ st.p, P y) → (∀ y ∈ st.q, P y) → st.beg ≤ n → st.at_ + s.length ≤ n →
      J n (s.foldl nstep st).row (s.foldl nstep st).cls ∧ (∀ y ∈ (s.foldl nstep st).p, P y) ∧ (∀ y ∈ (s.foldl nstep st).q, P y) ∧ (s.foldl nstep st).beg ≤ n ∧ (s.foldl nstep st).at_ ≤ n := by
    intro s
    induction s with
    | nil => intro n st _ h1 h2 h3 h4 h5; exact ⟨h1, h2, h3, h4, by simpa using h5⟩
    | cons x s ih =>
      intro n st hs h1 h2 h3 h4 h5
      rw [List.foldl_cons]
      have hx := hs x List.mem_cons_self
      have h6 : ∀ y ∈ st.p ++ x.f, P y := fun y hy => (List.mem_append.mp hy).elim (h2 y) (hx.2.1 y)
      have h7 : ∀ y ∈ st.q ++ x.g, P y := fun y hy => (List.mem_append.mp hy).elim (h3 y) (hx.2.2 y)
      simp only [List.length_cons] at h5
      have hb : ∀ (k : Bool), ∀ y ∈ (if k then [x.b] else []), P y := fun k y hy => by
        cases k
        · cases hy
        · rw [List.mem_singleton.mp hy]; exact hx.1
      unfold nstep
      by_cases h : (x.k && x.l) = true
      · rw [if_pos h]
        have c := cl n st.row st.cls st.beg st.at_ st.out (st.p ++ x.f) (st.q ++ x.g) h1 h6 h7 h4 (by omega)
        refine ih n _ (fun y hy => hs y (List.mem_cons_of_mem _ hy)) ⟨fun y hy => ?_, c.2⟩ (fun y hy => by cases hy) (fun y hy => by cases hy) (by simp only; omega) (by simp only; omega)
        rcases List.mem_append.mp hy with m | m
        · exact c.1 y m
        · rw [List.mem_singleton.mp m]; exact hx.1
      · rw [if_neg h]
        exact ih n _ (fun y hy => hs y (List.mem_cons_of_mem _ hy)) h1 (fun y hy => (List.mem_append.mp hy).elim (h6 y) (hb _ y)) (fun y hy => (List.mem_append.mp hy).elim (h7 y) (hb _ y)) h4 (by simp only; omega)
  obtain ⟨j1, j2, j3, j4, j5⟩ := this s s.length ⟨[], [], 0, 0, [], [], []⟩ hs (show J _ [] [] from ⟨fun y hy => (nomatch hy), fun c hc => (nomatch hc)⟩) (fun y hy => by cases hy) (fun y hy => by cases hy) (Nat.zero_le _) (by simp)
  exact cl s.length _ _ _ _ _ _ _ j1 (fun y hy => (List.mem_append.mp hy).elim (j2 y) (h1 y)) (fun y hy => (List.mem_append.mp hy).elim (j3 y) (h2 y)) j4 j5
end
end Mg

set_option Elab.async false
set_option linter.all false
set_option maxRecDepth 100000
set_option maxHeartbeats 4000000
/-! printed by gen.py -/
namespace K34
open PySem PySem.Spec PyProof.Rows L2 Em
def st (i : Nat) : Stmt := (PySem.Challenge.pw_eithermended_k34_whole_rows_of_forty_tex.main.body)[i]?.getD (.Pass ⟨0, 0, 0, 0⟩)
def dD (n : Str) (i : Nat) (dfl : List He.Dv := []) : He.DefD := ⟨(n, none), n, n, defArgs (st i), defBody (st i), defScope (st i), dfl, []⟩
def cs : List (Str × Cst) := [("SIGNS", .str "\n ,-.0123456789:;=abcdefghijklmnopqrstuvwxyz"), ("MOST_SIGNS", .int 400), ("MOST_ROW", .int 40), ("MOST_PIECE", .int 100), ("KEEP", .str "keep"), ("TURN", .str "turn"), ("MERGED", .str "merged"), ("CLASH", .str "clash")]
def bi : List Str := ["abs", "all", "bool", "enumerate", "int", "isinstance", "len", "list", "max", "min", "range", "repr", "str", "sum", "tuple", "zip"]
def names : List Str := ["is_tuple", "is_text", "check_row", "longest_from", "pairs_of", "fits", "common", "blocks_of", "changes", "changed", "is_block", "is_changes", "stable_places", "taken_of", "merged_rows", "merged", "_law_pot", "_law_take", "_law_of", "_law_places", "_law_signs", "_law_fresh", "_law_edit", "_law_done", "_law_merged", "_law_blocks", "_law_is_way_right", "_law_right", "law"]
def f_is_tuple : Fd := ⟨3, 3, [], (.cons (.ret (.ex (.and_ (.cons (.op (.isi .tuple) (.cons (.var 0) .nil)) (.cons (.lele (.var 1) (.op .len (.cons (.var 0) .nil)) (.var 2)) .nil))))) .nil)⟩
def C_is_text_1 : Fx := (.comp [2] (.nm 2) (.ex (.var 0)) (.ex (.op .in_ (.cons (.var 2) (.cons (.glob 0) .nil)))))
def f_is_text : Fd := ⟨3, 2, [], (.cons (.ret (.ex (.and_ (.cons (.op (.isi .str) (.cons (.var 0) .nil)) (.cons (.op .le (.cons (.op .len (.cons (.var 0) .nil)) (.cons (.var 1) .nil))) (.cons (.op .all (.cons (.fr C_is_text_1) .nil)) .nil)))))) .nil)⟩
def C_check_row_1 : Fx := (.comp [1] (.nm 1) (.ex (.var 0)) (.ex (.fr (.call 1 (.fx (.ex (.var 1)) (.fx (.ex (.glob 3)) .nil))))))
def f_check_row : Fd := ⟨2, 1, [], (.cons (.ite (.or_ (.cons (.not_ (.fr (.call 0 (.fx (.ex (.var 0)) (.fx (.ex (.lit (.int 0))) (.fx (.ex (.glob 2)) .nil)))))) (.cons (.not_ (.op .all (.cons (.fr C_check_row_1) .nil))) .nil))) (.cons .stuck .nil) .nil) .nil)⟩
def C_longest_from_1 : Fx := (.comp [3] (.nm 3) (.rng1 (.op .add (.cons (.op .len (.cons (.var 0) .nil)) (.cons (.lit (.int 1)) .nil)))) (.rep (.lit (.int 0)) (.op .add (.cons (.op .len (.cons (.var 1) .nil)) (.cons (.lit (.int 1)) .nil)))))
def L_longest_from_1 : Sms := (.cons (.set 2 (.cons (.var 4) .nil) (.var 5) (.op .max2 (.cons (.op .ix (.cons (.op .ix (.cons (.var 2) (.cons (.op .add (.cons (.var 4) (.cons (.lit (.int 1)) .nil))) .nil))) (.cons (.var 5) .nil))) (.cons (.op .ix (.cons (.op .ix (.cons (.var 2) (.cons (.var 4) .nil))) (.cons (.op .add (.cons (.var 5) (.cons (.lit (.int 1)) .nil))) .nil))) .nil)))) (.cons (.ite (.op .eq (.cons (.op .ix (.cons (.var 0) (.cons (.var 4) .nil))) (.cons (.op .ix (.cons (.var 1) (.cons (.var 5) .nil))) .nil))) (.cons (.set 2 (.cons (.var 4) .nil) (.var 5) (.op .max2 (.cons (.op .ix (.cons (.op .ix (.cons (.var 2) (.cons (.var 4) .nil))) (.cons (.var 5) .nil))) (.cons (.op .add (.cons (.lit (.int 1)) (.cons (.op .ix (.cons (.op .ix (.cons (.var 2) (.cons (.op .add (.cons (.var 4) (.cons (.lit (.int 1)) .nil))) .nil))) (.cons (.op .add (.cons (.var 5) (.cons (.lit (.int 1)) .nil))) .nil))) .nil))) .nil)))) .nil) .nil) .nil))
def L_longest_from_2 : Sms := (.cons (.for_ (.nm 5) (.rng3 (.op .sub (.cons (.op .len (.cons (.var 1) .nil)) (.cons (.lit (.int 1)) .nil))) (.op .neg (.cons (.lit (.int 1)) .nil)) (.op .neg (.cons (.lit (.int 1)) .nil))) L_longest_from_1) .nil)
def f_longest_from : Fd := ⟨6, 2, [], (.cons (.asg 2 C_longest_from_1) (.cons (.for_ (.nm 4) (.rng3 (.op .sub (.cons (.op .len (.cons (.var 0) .nil)) (.cons (.lit (.int 1)) .nil))) (.op .neg (.cons (.lit (.int 1)) .nil)) (.op .neg (.cons (.lit (.int 1)) .nil))) L_longest_from_2) (.cons (.ret (.ex (.frz 2))) .nil)))⟩
def C_pairs_of_1 : Fx := (.compIf [9] (.nm 9) (.rng2 (.var 5) (.op .len (.cons (.var 1) .nil))) (.fr (.call 5 (.fx (.ex (.var 0)) (.fx (.ex (.var 1)) (.fx (.ex (.var 2)) (.fx (.ex (.var 8)) (.fx (.ex (.var 9)) (.fx (.ex (.var 6)) .nil)))))))) (.ex (.op .tup (.cons (.var 8) (.cons (.var 9) .nil)))))
def L_pairs_of_1 : Sms := (.cons (.ite (.op .eq (.cons (.var 7) (.cons (.fr (.disp .nil)) .nil))) (.cons (.asg 7 C_pairs_of_1) .nil) .nil) .nil)
def L_pairs_of_2 : Sms := (.cons (.asg 6 (.ex (.op .ix (.cons (.op .ix (.cons (.var 2) (.cons (.var 4) .nil))) (.cons (.var 5) .nil))))) (.cons (.asg 7 (.disp .nil)) (.cons (.for_ (.nm 8) (.rng2 (.var 4) (.op .len (.cons (.var 0) .nil))) L_pairs_of_1) (.cons (.app 3 .nil (.ex (.op .ix (.cons (.var 7) (.cons (.lit (.int 0)) .nil))))) (.cons (.par (.cons 4 (.ex (.op .add (.cons (.op .ix (.cons (.op .ix (.cons (.var 7) (.cons (.lit (.int 0)) .nil))) (.cons (.lit (.int 0)) .nil))) (.cons (.lit (.int 1)) .nil)))) (.cons 5 (.ex (.op .add (.cons (.op .ix (.cons (.op .ix (.cons (.var 7) (.cons (.lit (.int 0)) .nil))) (.cons (.lit (.int 1)) .nil))) (.cons (.lit (.int 1)) .nil)))) .nil))) .nil)))))
def f_pairs_of : Fd := ⟨10, 2, [], (.cons (.par (.cons 2 (.ex (.fr (.call 3 (.fx (.ex (.var 0)) (.fx (.ex (.var 1)) .nil))))) (.cons 3 (.disp .nil) (.cons 4 (.ex (.lit (.int 0))) (.cons 5 (.ex (.lit (.int 0))) .nil))))) (.cons (.whil (.op .gt (.cons (.op .ix (.cons (.op .ix (.cons (.var 2) (.cons (.var 4) .nil))) (.cons (.var 5) .nil))) (.cons (.lit (.int 0)) .nil))) L_pairs_of_2) (.cons (.ret (.ex (.frz 3))) .nil)))⟩
def f_fits : Fd := ⟨6, 6, [], (.cons (.ret (.ex (.and_ (.cons (.op .eq (.cons (.op .ix (.cons (.var 0) (.cons (.var 3) .nil))) (.cons (.op .ix (.cons (.var 1) (.cons (.var 4) .nil))) .nil))) (.cons (.op .eq (.cons (.op .ix (.cons (.op .ix (.cons (.var 2) (.cons (.op .add (.cons (.var 3) (.cons (.lit (.int 1)) .nil))) .nil))) (.cons (.op .add (.cons (.var 4) (.cons (.lit (.int 1)) .nil))) .nil))) (.cons (.op .sub (.cons (.var 5) (.cons (.lit (.int 1)) .nil))) .nil))) .nil))))) .nil)⟩
def f_common : Fd := ⟨2, 2, [], (.cons (.expr (.fr (.call 2 (.fx (.ex (.var 0)) .nil)))) (.cons (.expr (.fr (.call 2 (.fx (.ex (.var 1)) .nil)))) (.cons (.ret (.ex (.op .tuple (.cons (.fr (.call 4 (.fx (.ex (.var 0)) (.fx (.ex (.var 1)) .nil)))) .nil)))) .nil)))⟩
def L_blocks_of_1 : Sms := (.cons (.ite (.or_ (.cons (.op .gt (.cons (.var 6) (.cons (.var 3) .nil))) (.cons (.op .gt (.cons (.var 7) (.cons (.var 4) .nil))) .nil))) (.cons (.ite (.op .gt (.cons (.var 5) (.cons (.lit (.int 0)) .nil))) (.cons (.app 2 .nil (.ex (.op .tup (.cons (.glob 4) (.cons (.var 5) .nil))))) .nil) .nil) (.cons (.app 2 .nil (.ex (.op .tup (.cons (.glob 5) (.cons (.op (.slc true true) (.cons (.var 0) (.cons (.var 3) (.cons (.var 6) .nil)))) (.cons (.op (.slc true true) (.cons (.var 1) (.cons (.var 4) (.cons (.var 7) .nil)))) .nil)))))) (.cons (.asg 5 (.ex (.lit (.int 0)))) .nil))) .nil) (.cons (.par (.cons 5 (.ex (.op .add (.cons (.var 5) (.cons (.lit (.int 1)) .nil)))) (.cons 3 (.ex (.op .add (.cons (.var 6) (.cons (.lit (.int 1)) .nil)))) (.cons 4 (.ex (.op .add (.cons (.var 7) (.cons (.lit (.int 1)) .nil)))) .nil)))) .nil))
def f_blocks_of : Fd := ⟨8, 2, [], (.cons (.par (.cons 2 (.disp .nil) (.cons 3 (.ex (.lit (.int 0))) (.cons 4 (.ex (.lit (.int 0))) (.cons 5 (.ex (.lit (.int 0))) .nil))))) (.cons (.for_ (.tp (.cons (.nm 6) (.cons (.nm 7) .nil))) (.ex (.op .starL (.cons (.fr (.call 4 (.fx (.ex (.var 0)) (.fx (.ex (.var 1)) .nil)))) (.cons (.op .tup (.cons (.op .len (.cons (.var 0) .nil)) (.cons (.op .len (.cons (.var 1) .nil)) .nil))) .nil)))) L_blocks_of_1) (.cons (.ret (.ex (.ite (.op .gt (.cons (.var 5) (.cons (.lit (.int 1)) .nil))) (.op .starL (.cons (.var 2) (.cons (.op .tup (.cons (.glob 4) (.cons (.op .sub (.cons (.var 5) (.cons (.lit (.int 1)) .nil))) .nil))) .nil))) (.frz 2)))) .nil)))⟩
def f_changes : Fd := ⟨2, 2, [], (.cons (.expr (.fr (.call 2 (.fx (.ex (.var 0)) .nil)))) (.cons (.expr (.fr (.call 2 (.fx (.ex (.var 1)) .nil)))) (.cons (.ret (.ex (.op .tuple (.cons (.fr (.call 7 (.fx (.ex (.var 0)) (.fx (.ex (.var 1)) .nil)))) .nil)))) .nil)))⟩
def L_changed_1 : Sms := (.cons (.ite (.op .eq (.cons (.op .ix (.cons (.var 4) (.cons (.lit (.int 0)) .nil))) (.cons (.glob 4) .nil))) (.cons (.ite (.op .gt (.cons (.op .add (.cons (.var 3) (.cons (.op .ix (.cons (.var 4) (.cons (.lit (.int 1)) .nil))) .nil))) (.cons (.op .len (.cons (.var 0) .nil)) .nil))) (.cons .stuck .nil) .nil) (.cons (.ext 2 .nil (.op (.slc true true) (.cons (.var 0) (.cons (.var 3) (.cons (.op .add (.cons (.var 3) (.cons (.op .ix (.cons (.var 4) (.cons (.lit (.int 1)) .nil))) .nil))) .nil))))) (.cons (.asg 3 (.ex (.op .add (.cons (.var 3) (.cons (.op .ix (.cons (.var 4) (.cons (.lit (.int 1)) .nil))) .nil))))) .nil))) (.cons (.ite (.op .ne (.cons (.op (.slc true true) (.cons (.var 0) (.cons (.var 3) (.cons (.op .add (.cons (.var 3) (.cons (.op .len (.cons (.op .ix (.cons (.var 4) (.cons (.lit (.int 1)) .nil))) .nil)) .nil))) .nil)))) (.cons (.op .ix (.cons (.var 4) (.cons (.lit (.int 1)) .nil))) .nil))) (.cons .stuck .nil) .nil) (.cons (.ext 2 .nil (.op .ix (.cons (.var 4) (.cons (.lit (.int 2)) .nil)))) (.cons (.asg 3 (.ex (.op .add (.cons (.var 3) (.cons (.op .len (.cons (.op .ix (.cons (.var 4) (.cons (.lit (.int 1)) .nil))) .nil)) .nil))))) .nil)))) .nil)
def f_changed : Fd := ⟨5, 2, [], (.cons (.expr (.fr (.call 2 (.fx (.ex (.var 0)) .nil)))) (.cons (.ite (.not_ (.fr (.call 11 (.fx (.ex (.var 1)) .nil)))) (.cons .stuck .nil) .nil) (.cons (.par (.cons 2 (.disp .nil) (.cons 3 (.ex (.lit (.int 0))) .nil))) (.cons (.for_ (.nm 4) (.ex (.var 1)) L_changed_1) (.cons (.ite (.op .ne (.cons (.var 3) (.cons (.op .len (.cons (.var 0) .nil)) .nil))) (.cons .stuck .nil) .nil) (.cons (.ret (.ex (.op .tuple (.cons (.var 2) .nil)))) .nil))))))⟩
def C_is_block_1 : Fx := (.comp [1] (.nm 1) (.ex (.op (.slc true false) (.cons (.var 0) (.cons (.lit (.int 1)) .nil)))) (.ex (.fr (.call 0 (.fx (.ex (.var 1)) (.fx (.ex (.lit (.int 0))) (.fx (.ex (.glob 2)) .nil)))))))
def C_is_block_2 : Fx := (.comp [2] (.nm 2) (.ex (.op .starT2 (.cons (.op .ix (.cons (.var 0) (.cons (.lit (.int 1)) .nil))) (.cons (.op .ix (.cons (.var 0) (.cons (.lit (.int 2)) .nil))) .nil)))) (.ex (.fr (.call 1 (.fx (.ex (.var 2)) (.fx (.ex (.glob 3)) .nil))))))
def f_is_block : Fd := ⟨3, 1, [], (.cons (.ite (.or_ (.cons (.not_ (.fr (.call 0 (.fx (.ex (.var 0)) (.fx (.ex (.lit (.int 2))) (.fx (.ex (.lit (.int 3))) .nil)))))) (.cons (.not_ (.op (.isi .str) (.cons (.op .ix (.cons (.var 0) (.cons (.lit (.int 0)) .nil))) .nil))) .nil))) (.cons (.ret (.ex (.lit (.bl false)))) .nil) .nil) (.cons (.ite (.op .eq (.cons (.op .ix (.cons (.var 0) (.cons (.lit (.int 0)) .nil))) (.cons (.glob 4) .nil))) (.cons (.ret (.ex (.and_ (.cons (.op .eq (.cons (.op .len (.cons (.var 0) .nil)) (.cons (.lit (.int 2)) .nil))) (.cons (.op (.isi .int) (.cons (.op .ix (.cons (.var 0) (.cons (.lit (.int 1)) .nil))) .nil)) (.cons (.not_ (.op (.isi .bool) (.cons (.op .ix (.cons (.var 0) (.cons (.lit (.int 1)) .nil))) .nil))) (.cons (.op .gt (.cons (.op .ix (.cons (.var 0) (.cons (.lit (.int 1)) .nil))) (.cons (.lit (.int 0)) .nil))) .nil))))))) .nil) .nil) (.cons (.ite (.or_ (.cons (.op .ne (.cons (.op .ix (.cons (.var 0) (.cons (.lit (.int 0)) .nil))) (.cons (.glob 5) .nil))) (.cons (.op .ne (.cons (.op .len (.cons (.var 0) .nil)) (.cons (.lit (.int 3)) .nil))) (.cons (.not_ (.op .all (.cons (.fr C_is_block_1) .nil))) .nil)))) (.cons (.ret (.ex (.lit (.bl false)))) .nil) .nil) (.cons (.ret (.ex (.op .all (.cons (.fr C_is_block_2) .nil)))) .nil))))⟩
def C_is_changes_1 : Fx := (.comp [1] (.nm 1) (.ex (.var 0)) (.ex (.fr (.call 10 (.fx (.ex (.var 1)) .nil)))))
def f_is_changes : Fd := ⟨2, 1, [], (.cons (.ret (.ex (.and_ (.cons (.fr (.call 0 (.fx (.ex (.var 0)) (.fx (.ex (.lit (.int 0))) (.fx (.ex (.op .add (.cons (.op .mul (.cons (.lit (.int 2)) (.cons (.glob 2) .nil))) (.cons (.lit (.int 1)) .nil)))) .nil))))) (.cons (.op .all (.cons (.fr C_is_changes_1) .nil)) .nil))))) .nil)⟩
def D_stable_places_1 : Ex := (.dcomp [5, 6] (.tp (.cons (.nm 5) (.cons (.nm 6) .nil))) (.ex (.fr (.call 4 (.fx (.ex (.var 0)) (.fx (.ex (.var 2)) .nil))))) (.var 5) (.var 6))
def D_stable_places_2 : Ex := (.dcomp [5, 6] (.tp (.cons (.nm 5) (.cons (.nm 6) .nil))) (.ex (.fr (.call 4 (.fx (.ex (.var 0)) (.fx (.ex (.var 1)) .nil))))) (.var 5) (.var 6))
def C_stable_places_1 : Fx := (.compIf [5] (.nm 5) (.rng1 (.op .len (.cons (.var 0) .nil))) (.and_ (.cons (.op .in_ (.cons (.var 5) (.cons (.var 3) .nil))) (.cons (.op .in_ (.cons (.var 5) (.cons (.var 4) .nil))) .nil))) (.ex (.op .tup (.cons (.var 5) (.cons (.op .ix (.cons (.var 3) (.cons (.var 5) .nil))) (.cons (.op .ix (.cons (.var 4) (.cons (.var 5) .nil))) .nil))))))
def f_stable_places : Fd := ⟨8, 3, [], (.cons (.par (.cons 3 (.ex D_stable_places_2) (.cons 4 (.ex D_stable_places_1) .nil))) (.cons (.asg 7 C_stable_places_1) (.cons (.ret (.ex (.op .starL (.cons (.var 7) (.cons (.op .tup (.cons (.op .len (.cons (.var 0) .nil)) (.cons (.op .len (.cons (.var 1) .nil)) (.cons (.op .len (.cons (.var 2) .nil)) .nil)))) .nil))))) .nil)))⟩
def f_taken_of : Fd := ⟨4, 1, [], (.cons (.unp (.tp (.cons (.nm 1) (.cons (.nm 2) (.cons (.nm 3) .nil)))) (.var 0)) (.cons (.ite (.op .eq (.cons (.var 2) (.cons (.var 1) .nil))) (.cons (.ret (.ex (.var 3))) .nil) .nil) (.cons (.ret (.ex (.ite (.op .in_ (.cons (.var 3) (.cons (.op .tup (.cons (.var 1) (.cons (.var 2) .nil))) .nil))) (.var 2) (.lit .non)))) .nil)))⟩
def L_merged_rows_1 : Sms := (.cons (.asg 7 (.ex (.op .tup (.cons (.op (.slc true true) (.cons (.var 0) (.cons (.op .ix (.cons (.var 5) (.cons (.lit (.int 0)) .nil))) (.cons (.op .ix (.cons (.var 6) (.cons (.lit (.int 0)) .nil))) .nil)))) (.cons (.op (.slc true true) (.cons (.var 1) (.cons (.op .ix (.cons (.var 5) (.cons (.lit (.int 1)) .nil))) (.cons (.op .ix (.cons (.var 6) (.cons (.lit (.int 1)) .nil))) .nil)))) (.cons (.op (.slc true true) (.cons (.var 2) (.cons (.op .ix (.cons (.var 5) (.cons (.lit (.int 2)) .nil))) (.cons (.op .ix (.cons (.var 6) (.cons (.lit (.int 2)) .nil))) .nil)))) .nil)))))) (.cons (.asg 8 (.ex (.fr (.call 13 (.fx (.ex (.var 7)) .nil))))) (.cons (.ite (.op .isN (.cons (.var 8) .nil)) (.cons (.app 4 .nil (.ex (.op .tup (.cons (.op .ix (.cons (.var 5) (.cons (.lit (.int 0)) .nil))) (.cons (.op .ix (.cons (.var 6) (.cons (.lit (.int 0)) .nil))) (.cons (.op .ix (.cons (.var 7) (.cons (.lit (.int 1)) .nil))) (.cons (.op .ix (.cons (.var 7) (.cons (.lit (.int 2)) .nil))) .nil))))))) .nil) (.cons (.ext 3 .nil (.var 8)) .nil)) (.cons (.ext 3 .nil (.op (.slc true true) (.cons (.var 0) (.cons (.op .ix (.cons (.var 6) (.cons (.lit (.int 0)) .nil))) (.cons (.op .add (.cons (.op .ix (.cons (.var 6) (.cons (.lit (.int 0)) .nil))) (.cons (.lit (.int 1)) .nil))) .nil))))) (.cons (.asg 5 (.ex (.op .tup (.cons (.op .add (.cons (.op .ix (.cons (.var 6) (.cons (.lit (.int 0)) .nil))) (.cons (.lit (.int 1)) .nil))) (.cons (.op .add (.cons (.op .ix (.cons (.var 6) (.cons (.lit (.int 1)) .nil))) (.cons (.lit (.int 1)) .nil))) (.cons (.op .add (.cons (.op .ix (.cons (.var 6) (.cons (.lit (.int 2)) .nil))) (.cons (.lit (.int 1)) .nil))) .nil)))))) .nil)))))
def f_merged_rows : Fd := ⟨9, 3, [], (.cons (.par (.cons 3 (.disp .nil) (.cons 4 (.disp .nil) (.cons 5 (.ex (.op .tup (.cons (.lit (.int 0)) (.cons (.lit (.int 0)) (.cons (.lit (.int 0)) .nil))))) .nil)))) (.cons (.for_ (.nm 6) (.ex (.fr (.call 12 (.fx (.ex (.var 0)) (.fx (.ex (.var 1)) (.fx (.ex (.var 2)) .nil)))))) L_merged_rows_1) (.cons (.ret (.ex (.op .tup (.cons (.op .tuple (.cons (.var 3) .nil)) (.cons (.op .tuple (.cons (.var 4) .nil)) .nil))))) .nil)))⟩
def f_merged : Fd := ⟨5, 3, [], (.cons (.expr (.fr (.call 2 (.fx (.ex (.var 0)) .nil)))) (.cons (.expr (.fr (.call 2 (.fx (.ex (.var 1)) .nil)))) (.cons (.expr (.fr (.call 2 (.fx (.ex (.var 2)) .nil)))) (.cons (.unp (.tp (.cons (.nm 3) (.cons (.nm 4) .nil))) (.fr (.call 14 (.fx (.ex (.var 0)) (.fx (.ex (.var 1)) (.fx (.ex (.var 2)) .nil)))))) (.cons (.ret (.ex (.ite (.op .eq (.cons (.var 4) (.cons (.op .tup .nil) .nil))) (.op .tup (.cons (.glob 6) (.cons (.var 3) .nil))) (.op .tup (.cons (.glob 7) (.cons (.var 4) .nil)))))) .nil)))))⟩
def f__law_pot : Fd := ⟨5, 2, [], (.cons (.asg 2 (.ex (.ite (.op .lt (.cons (.var 1) (.cons (.op .len (.cons (.var 0) .nil)) .nil))) (.op .ix (.cons (.var 0) (.cons (.var 1) .nil))) (.op .add (.cons (.op .add (.cons (.op .mod (.cons (.op .sum (.cons (.op (.slc false true) (.cons (.var 0) (.cons (.lit (.int 1)) .nil))) .nil)) (.cons (.lit (.int 1000003)) .nil))) (.cons (.op .mul (.cons (.lit (.int 21269)) (.cons (.var 1) .nil))) .nil))) (.cons (.lit (.int 2503)) .nil)))))) (.cons (.asg 3 (.ex (.op .mul (.cons (.op .mod (.cons (.op .int (.cons (.op .abs (.cons (.var 2) .nil)) .nil)) (.cons (.op .pow (.cons (.op .pow (.cons (.lit (.int 10)) (.cons (.lit (.int 60)) .nil))) (.cons (.lit (.int 5)) .nil))) .nil))) (.cons (.op .int (.cons (.op .ge (.cons (.op .abs (.cons (.var 2) .nil)) (.cons (.op .pow (.cons (.lit (.int 10)) (.cons (.lit (.int 18)) .nil))) .nil))) .nil)) .nil))))) (.cons (.asg 4 (.ex (.op .mod (.cons (.op .int (.cons (.var 2) .nil)) (.cons (.lit (.int 2305843009213693951)) .nil))))) (.cons (.ret (.disp (.cons (.var 3) (.cons (.op .mod (.cons (.op .int (.cons (.op .add (.cons (.op .add (.cons (.op .mul (.cons (.var 4) (.cons (.lit (.int 165139)) .nil))) (.cons (.op .mul (.cons (.op .mul (.cons (.lit (.int 24741)) (.cons (.var 1) .nil))) (.cons (.var 1) .nil))) .nil))) (.cons (.lit (.int 1439)) .nil))) .nil)) (.cons (.lit (.int 2305843009213693921)) .nil))) (.cons (.lit (.int 0)) .nil))))) .nil))))⟩
def f__law_take : Fd := ⟨5, 2, [0], (.cons (.ite (.op .gt (.cons (.op .ix (.cons (.var 0) (.cons (.lit (.int 0)) .nil))) (.cons (.lit (.int 0)) .nil))) (.cons (.asg 2 (.ex (.op .mod (.cons (.op .int (.cons (.op .ix (.cons (.var 0) (.cons (.lit (.int 0)) .nil))) .nil)) (.cons (.var 1) .nil))))) (.cons (.set 0 .nil (.lit (.int 0)) (.op .fdiv (.cons (.op .ix (.cons (.var 0) (.cons (.lit (.int 0)) .nil))) (.cons (.var 1) .nil)))) (.cons (.ret (.ex (.var 2))) .nil))) .nil) (.cons (.set 0 .nil (.lit (.int 2)) (.op .add (.cons (.op .ix (.cons (.var 0) (.cons (.lit (.int 2)) .nil))) (.cons (.lit (.int 1)) .nil)))) (.cons (.asg 3 (.ex (.op .ix (.cons (.fr (.disp (.cons (.lit (.int 2147483647)) (.cons (.lit (.int 2147483629)) (.cons (.lit (.int 2147483587)) (.cons (.lit (.int 2147483579)) (.cons (.lit (.int 2147483563)) .nil))))))) (.cons (.op .mod (.cons (.op .int (.cons (.op .ix (.cons (.var 0) (.cons (.lit (.int 2)) .nil))) .nil)) (.cons (.lit (.int 5)) .nil))) .nil))))) (.cons (.asg 4 (.ex (.op .mod (.cons (.op .int (.cons (.op .pow (.cons (.op .int (.cons (.op .add (.cons (.op .add (.cons (.op .ix (.cons (.var 0) (.cons (.lit (.int 1)) .nil))) (.cons (.op .mul (.cons (.op .mul (.cons (.lit (.int 120557)) (.cons (.op .ix (.cons (.var 0) (.cons (.lit (.int 2)) .nil))) .nil))) (.cons (.op .ix (.cons (.var 0) (.cons (.lit (.int 2)) .nil))) .nil))) .nil))) (.cons (.lit (.int 1253)) .nil))) .nil)) (.cons (.lit (.int 3)) .nil))) .nil)) (.cons (.var 3) .nil))))) (.cons (.asg 4 (.ex (.op .mod (.cons (.op .int (.cons (.op .mul (.cons (.var 4) (.cons (.op .add (.cons (.op .mod (.cons (.op .int (.cons (.var 4) .nil)) (.cons (.lit (.int 10259)) .nil))) (.cons (.op .mul (.cons (.lit (.int 122)) (.cons (.op .ix (.cons (.var 0) (.cons (.lit (.int 2)) .nil))) .nil))) .nil))) .nil))) .nil)) (.cons (.lit (.int 2305843009213693907)) .nil))))) (.cons (.ret (.ex (.op .mod (.cons (.op .int (.cons (.op .fdiv (.cons (.var 4) (.cons (.lit (.int 152)) .nil))) .nil)) (.cons (.var 1) .nil))))) .nil))))))⟩
def f__law_of : Fd := ⟨2, 2, [0], (.cons (.ret (.ex (.op .ix (.cons (.var 1) (.cons (.fr (.call 17 (.ref 0 (.fx (.ex (.op .len (.cons (.var 1) .nil))) .nil)))) .nil))))) .nil)⟩
def f__law_places : Fd := ⟨2, 2, [], (.cons (.ret (.ex (.op .lrange (.cons (.op .max2 (.cons (.lit (.int 1)) (.cons (.op .min2 (.cons (.var 1) (.cons (.op .len (.cons (.var 0) .nil)) .nil))) .nil))) .nil)))) .nil)⟩
def f__law_signs : Fd := ⟨0, 0, [], (.cons (.ret (.ex (.lit (.str [10, 32, 44, 45, 46, 48, 49, 50, 51, 52, 53, 54, 55, 56, 57, 58, 59, 61, 97, 98, 99, 100, 101, 102, 103, 104, 105, 106, 107, 108, 109, 110, 111, 112, 113, 114, 115, 116, 117, 118, 119, 120, 121, 122])))) .nil)⟩
def C__law_fresh_1 : Fx := (.comp [3] (.nm 3) (.rng1 (.fr (.call 18 (.ref 0 (.fx (.ex (.fr (.disp (.cons (.lit (.int 0)) (.cons (.lit (.int 1)) (.cons (.lit (.int 3)) (.cons (.lit (.int 98)) .nil))))))) .nil))))) (.ex (.fr (.call 18 (.ref 0 (.fx (.ex (.fr (.call 20 .nil))) .nil))))))
def f__law_fresh : Fd := ⟨4, 2, [0], (.cons (.asg 2 (.ex (.op .join (.cons (.lit (.str [])) (.cons (.fr C__law_fresh_1) .nil))))) (.cons (.ret (.ex (.op .add (.cons (.op .add (.cons (.var 2) (.cons (.op .ix (.cons (.fr (.call 20 .nil)) (.cons (.op .mod (.cons (.op .fdiv (.cons (.var 1) (.cons (.lit (.int 44)) .nil))) (.cons (.lit (.int 44)) .nil))) .nil))) .nil))) (.cons (.op .ix (.cons (.fr (.call 20 .nil)) (.cons (.op .mod (.cons (.var 1) (.cons (.lit (.int 44)) .nil))) .nil))) .nil))))) .nil))⟩
def L__law_edit_1 : Sms := (.cons (.par (.cons 6 (.ex (.fr (.call 17 (.ref 0 (.fx (.ex (.lit (.int 8))) .nil))))) (.cons 7 (.ex (.fr (.disp .nil))) .nil))) (.cons (.ite (.and_ (.cons (.op .lt (.cons (.var 6) (.cons (.lit (.int 2)) .nil))) (.cons (.op .lt (.cons (.var 4) (.cons (.lit (.int 40)) .nil))) .nil))) (.cons (.set 2 .nil (.lit (.int 0)) (.op .add (.cons (.op .ix (.cons (.var 2) (.cons (.lit (.int 0)) .nil))) (.cons (.lit (.int 1)) .nil)))) (.cons (.asg 7 (.ex (.fr (.disp (.cons (.fr (.call 21 (.ref 0 (.fx (.ex (.op .ix (.cons (.var 2) (.cons (.lit (.int 0)) .nil)))) .nil)))) .nil))))) (.cons (.asg 4 (.ex (.op .add (.cons (.var 4) (.cons (.lit (.int 1)) .nil))))) .nil))) .nil) (.cons (.asg 8 (.ex (.op .nin (.cons (.var 6) (.cons (.op .tup (.cons (.lit (.int 1)) (.cons (.lit (.int 2)) .nil))) .nil))))) (.cons (.asg 4 (.ex (.op .sub (.cons (.var 4) (.cons (.op .int (.cons (.and_ (.cons (.op .lt (.cons (.var 5) (.cons (.op .len (.cons (.var 1) .nil)) .nil))) (.cons (.not_ (.var 8)) .nil))) .nil)) .nil))))) (.cons (.app 3 .nil (.ex (.op .tup (.cons (.var 7) (.cons (.var 8) .nil))))) .nil)))))
def f__law_edit : Fd := ⟨9, 3, [0, 2], (.cons (.par (.cons 3 (.disp .nil) (.cons 4 (.ex (.op .len (.cons (.var 1) .nil))) .nil))) (.cons (.for_ (.nm 5) (.rng1 (.op .add (.cons (.op .len (.cons (.var 1) .nil)) (.cons (.lit (.int 1)) .nil)))) L__law_edit_1) (.cons (.ret (.ex (.frz 3))) .nil)))⟩
def L__law_done_1 : Sms := (.cons (.asg 2 (.ex (.op .add (.cons (.op .add (.cons (.var 2) (.cons (.var 4) .nil))) (.cons (.ite (.var 5) (.op (.slc true true) (.cons (.var 0) (.cons (.var 3) (.cons (.op .add (.cons (.var 3) (.cons (.lit (.int 1)) .nil))) .nil)))) (.fr (.disp .nil))) .nil))))) .nil)
def f__law_done : Fd := ⟨6, 2, [], (.cons (.asg 2 (.ex (.fr (.disp .nil)))) (.cons (.for_ (.tp (.cons (.nm 3) (.cons (.tp (.cons (.nm 4) (.cons (.nm 5) .nil))) .nil))) (.enum (.var 1)) L__law_done_1) (.cons (.ret (.ex (.var 2))) .nil)))⟩
def C__law_merged_1 : Fx := (.comp [8, 9] (.tp (.cons (.nm 8) (.cons (.nm 9) .nil))) (.zip (.frz 6) (.op .tup (.cons (.var 1) (.cons (.var 2) .nil)))) (.ex (.op .add (.cons (.var 8) (.cons (.op .ix (.cons (.op .ix (.cons (.var 9) (.cons (.var 7) .nil))) (.cons (.lit (.int 0)) .nil))) .nil)))))
def C__law_merged_2 : Fx := (.comp [8, 9] (.tp (.cons (.nm 8) (.cons (.nm 9) .nil))) (.zip (.frz 6) (.op .tup (.cons (.var 1) (.cons (.var 2) .nil)))) (.ex (.op .add (.cons (.var 8) (.cons (.ite (.op .ix (.cons (.op .ix (.cons (.var 9) (.cons (.var 7) .nil))) (.cons (.lit (.int 1)) .nil))) (.op (.slc true true) (.cons (.var 0) (.cons (.var 7) (.cons (.op .add (.cons (.var 7) (.cons (.lit (.int 1)) .nil))) .nil)))) (.fr (.disp .nil))) .nil)))))
def L__law_merged_1 : Sms := (.cons (.asg 6 C__law_merged_1) (.cons (.ite (.and_ (.cons (.op .lt (.cons (.var 7) (.cons (.op .len (.cons (.var 0) .nil)) .nil))) (.cons (.not_ (.and_ (.cons (.op .ix (.cons (.op .ix (.cons (.var 1) (.cons (.var 7) .nil))) (.cons (.lit (.int 1)) .nil))) (.cons (.op .ix (.cons (.op .ix (.cons (.var 2) (.cons (.var 7) .nil))) (.cons (.lit (.int 1)) .nil))) .nil)))) .nil))) (.cons (.asg 6 C__law_merged_2) .nil) (.cons (.asg 10 (.ex (.op (.slc true true) (.cons (.var 0) (.cons (.var 5) (.cons (.var 7) .nil)))))) (.cons (.ite (.or_ (.cons (.op .eq (.cons (.op .ix (.cons (.var 6) (.cons (.lit (.int 0)) .nil))) (.cons (.var 10) .nil))) (.cons (.op .eq (.cons (.op .ix (.cons (.var 6) (.cons (.lit (.int 0)) .nil))) (.cons (.op .ix (.cons (.var 6) (.cons (.lit (.int 1)) .nil))) .nil))) .nil))) (.cons (.asg 3 (.ex (.op .add (.cons (.var 3) (.cons (.op .ix (.cons (.var 6) (.cons (.lit (.int 1)) .nil))) .nil))))) .nil) (.cons (.ite (.op .eq (.cons (.op .ix (.cons (.var 6) (.cons (.lit (.int 1)) .nil))) (.cons (.var 10) .nil))) (.cons (.asg 3 (.ex (.op .add (.cons (.var 3) (.cons (.op .ix (.cons (.var 6) (.cons (.lit (.int 0)) .nil))) .nil))))) .nil) (.cons (.app 4 .nil (.ex (.op .tup (.cons (.var 5) (.cons (.var 7) (.cons (.op .tuple (.cons (.op .ix (.cons (.var 6) (.cons (.lit (.int 0)) .nil))) .nil)) (.cons (.op .tuple (.cons (.op .ix (.cons (.var 6) (.cons (.lit (.int 1)) .nil))) .nil)) .nil))))))) .nil)) .nil)) (.cons (.par (.cons 3 (.ex (.op .add (.cons (.var 3) (.cons (.op (.slc true true) (.cons (.var 0) (.cons (.var 7) (.cons (.op .add (.cons (.var 7) (.cons (.lit (.int 1)) .nil))) .nil)))) .nil)))) (.cons 5 (.ex (.op .add (.cons (.var 7) (.cons (.lit (.int 1)) .nil)))) (.cons 6 (.disp (.cons (.fr (.disp .nil)) (.cons (.fr (.disp .nil)) .nil))) .nil)))) .nil)))) .nil))
def f__law_merged : Fd := ⟨11, 3, [], (.cons (.par (.cons 3 (.ex (.fr (.disp .nil))) (.cons 4 (.disp .nil) (.cons 5 (.ex (.lit (.int 0))) (.cons 6 (.disp (.cons (.fr (.disp .nil)) (.cons (.fr (.disp .nil)) .nil))) .nil))))) (.cons (.for_ (.nm 7) (.rng1 (.op .add (.cons (.op .len (.cons (.var 0) .nil)) (.cons (.lit (.int 1)) .nil)))) L__law_merged_1) (.cons (.ret (.ex (.ite (.op .eq (.cons (.var 4) (.cons (.fr (.disp .nil)) .nil))) (.op .tup (.cons (.lit (.str [109, 101, 114, 103, 101, 100])) (.cons (.op .tuple (.cons (.var 3) .nil)) .nil))) (.op .tup (.cons (.lit (.str [99, 108, 97, 115, 104])) (.cons (.op .tuple (.cons (.var 4) .nil)) .nil)))))) .nil)))⟩
def L__law_blocks_1 : Sms := (.cons (.asg 4 (.ex (.op .add (.cons (.var 4) (.cons (.var 6) .nil))))) (.cons (.ite (.and_ (.cons (.op .lt (.cons (.var 5) (.cons (.op .len (.cons (.var 0) .nil)) .nil))) (.cons (.not_ (.var 7)) .nil))) (.cons (.asg 3 (.ex (.op .add (.cons (.var 3) (.cons (.op (.slc true true) (.cons (.var 0) (.cons (.var 5) (.cons (.op .add (.cons (.var 5) (.cons (.lit (.int 1)) .nil))) .nil)))) .nil))))) .nil) (.cons (.ite (.op .ne (.cons (.op .add (.cons (.var 3) (.cons (.var 4) .nil))) (.cons (.fr (.disp .nil)) .nil))) (.cons (.app 2 .nil (.ex (.op .tup (.cons (.lit (.str [116, 117, 114, 110])) (.cons (.op .tuple (.cons (.var 3) .nil)) (.cons (.op .tuple (.cons (.var 4) .nil)) .nil)))))) .nil) .nil) (.cons (.par (.cons 3 (.ex (.fr (.disp .nil))) (.cons 4 (.ex (.fr (.disp .nil))) .nil))) (.cons (.ite (.op .lt (.cons (.var 5) (.cons (.op .len (.cons (.var 0) .nil)) .nil))) (.cons (.asg 8 (.ex (.ite (.and_ (.cons (.op .ne (.cons (.var 2) (.cons (.fr (.disp .nil)) .nil))) (.cons (.op .eq (.cons (.op .ix (.cons (.op .ix (.cons (.var 2) (.cons (.op .neg (.cons (.lit (.int 1)) .nil)) .nil))) (.cons (.lit (.int 0)) .nil))) (.cons (.lit (.str [107, 101, 101, 112])) .nil))) .nil))) (.op .ix (.cons (.pop 2) (.cons (.lit (.int 1)) .nil))) (.lit (.int 0))))) (.cons (.app 2 .nil (.ex (.op .tup (.cons (.lit (.str [107, 101, 101, 112])) (.cons (.op .add (.cons (.var 8) (.cons (.lit (.int 1)) .nil))) .nil))))) .nil)) .nil) .nil)))) .nil))
def f__law_blocks : Fd := ⟨9, 2, [], (.cons (.par (.cons 2 (.disp .nil) (.cons 3 (.ex (.fr (.disp .nil))) (.cons 4 (.ex (.fr (.disp .nil))) .nil)))) (.cons (.for_ (.tp (.cons (.nm 5) (.cons (.tp (.cons (.nm 6) (.cons (.nm 7) .nil))) .nil))) (.enum (.var 1)) L__law_blocks_1) (.cons (.ret (.ex (.op .tuple (.cons (.var 2) .nil)))) .nil)))⟩
def C__law_is_way_right_1 : Fx := (.compIf [4] (.nm 4) (.rng1 (.op .len (.cons (.var 0) .nil))) (.op .ix (.cons (.op .ix (.cons (.var 1) (.cons (.var 4) .nil))) (.cons (.lit (.int 1)) .nil))) (.ex (.var 4)))
def C__law_is_way_right_2 : Fx := (.comp [4] (.nm 4) (.ex (.frz 3)) (.ex (.op .tup (.cons (.var 4) (.cons (.op .lindex (.cons (.var 2) (.cons (.op .ix (.cons (.var 0) (.cons (.var 4) .nil))) .nil))) .nil)))))
def C__law_is_way_right_3 : Fx := (.comp [7] (.nm 7) (.ex (.var 5)) (.ex (.ite (.op .eq (.cons (.op .ix (.cons (.var 7) (.cons (.lit (.int 0)) .nil))) (.cons (.lit (.str [107, 101, 101, 112])) .nil))) (.var 7) (.op .tup (.cons (.lit (.str [116, 117, 114, 110])) (.cons (.op .ix (.cons (.var 7) (.cons (.lit (.int 2)) .nil))) (.cons (.op .ix (.cons (.var 7) (.cons (.lit (.int 1)) .nil))) .nil)))))))
def f__law_is_way_right : Fd := ⟨8, 3, [], (.cons (.asg 3 C__law_is_way_right_1) (.cons (.ite (.op .ne (.cons (.op .repr (.cons (.fr (.call 6 (.fx (.ex (.op .tuple (.cons (.var 0) .nil))) (.fx (.ex (.op .tuple (.cons (.var 2) .nil))) .nil)))) .nil)) (.cons (.op .repr (.cons (.op .tuple (.cons (.fr C__law_is_way_right_2) .nil)) .nil)) .nil))) (.cons (.ret (.ex (.lit (.bl false)))) .nil) .nil) (.cons (.asg 5 (.ex (.fr (.call 8 (.fx (.ex (.op .tuple (.cons (.var 0) .nil))) (.fx (.ex (.op .tuple (.cons (.var 2) .nil))) .nil)))))) (.cons (.ite (.or_ (.cons (.op .ne (.cons (.op .repr (.cons (.var 5) .nil)) (.cons (.op .repr (.cons (.fr (.call 25 (.fx (.ex (.var 0)) (.fx (.ex (.var 1)) .nil)))) .nil)) .nil))) (.cons (.op .ne (.cons (.op .repr (.cons (.fr (.call 9 (.fx (.ex (.op .tuple (.cons (.var 0) .nil))) (.fx (.ex (.var 5)) .nil)))) .nil)) (.cons (.op .repr (.cons (.op .tuple (.cons (.var 2) .nil)) .nil)) .nil))) .nil))) (.cons (.ret (.ex (.lit (.bl false)))) .nil) .nil) (.cons (.asg 6 (.ex (.op .tuple (.cons (.fr C__law_is_way_right_3) .nil)))) (.cons (.ret (.ex (.op .eq (.cons (.op .repr (.cons (.fr (.call 9 (.fx (.ex (.op .tuple (.cons (.var 2) .nil))) (.fx (.ex (.var 6)) .nil)))) .nil)) (.cons (.op .repr (.cons (.op .tuple (.cons (.var 0) .nil)) .nil)) .nil))))) .nil))))))⟩
def C__law_right_1 : Fx := (.comp [3] (.nm 3) (.rng1 (.fr (.call 18 (.ref 0 (.fx (.ex (.fr (.disp (.cons (.lit (.int 0)) (.cons (.lit (.int 1)) (.cons (.lit (.int 3)) (.cons (.lit (.int 8)) (.cons (.lit (.int 40)) .nil)))))))) .nil))))) (.ex (.fr (.call 21 (.ref 0 (.fx (.ex (.op .add (.cons (.lit (.int 1000)) (.cons (.var 3) .nil)))) .nil))))))
def C__law_right_2 : Fx := (.comp [10] (.nm 10) (.ex (.var 11)) (.ex (.op .rev (.cons (.var 10) .nil))))
def C__law_right_3 : Fx := (.comp [11] (.nm 11) (.ex (.op .add (.cons (.fr (.disp (.cons (.frz 2) .nil))) (.cons (.var 6) .nil)))) (.ex (.op .tuple (.cons (.fr C__law_right_2) .nil))))
def C__law_right_4 : Fx := (.comp [10] (.nm 10) (.ex (.op .ix (.cons (.var 7) (.cons (.lit (.int 1)) .nil)))) (.ex (.op .rev (.cons (.var 10) .nil))))
def C__law_right_5 : Fx := (.comp [10] (.nm 10) (.ex (.op .ix (.cons (.var 11) (.cons (.lit (.int 3)) .nil)))) (.ex (.op .rev (.cons (.var 10) .nil))))
def C__law_right_6 : Fx := (.comp [10] (.nm 10) (.ex (.op .ix (.cons (.var 11) (.cons (.lit (.int 2)) .nil)))) (.ex (.op .rev (.cons (.var 10) .nil))))
def C__law_right_7 : Fx := (.comp [11] (.nm 11) (.ex (.op .ix (.cons (.var 7) (.cons (.lit (.int 1)) .nil)))) (.ex (.op .tup (.cons (.op .ix (.cons (.var 11) (.cons (.lit (.int 0)) .nil))) (.cons (.op .ix (.cons (.var 11) (.cons (.lit (.int 1)) .nil))) (.cons (.fr (.disp (.cons (.fr C__law_right_5) (.cons (.fr C__law_right_6) .nil)))) .nil))))))
def C__law_right_8 : Fx := (.comp [14, 15, 16] (.tp (.cons (.nm 14) (.cons (.nm 15) (.cons (.nm 16) .nil)))) (.ex (.frz 13)) (.ex (.op .tup (.cons (.var 14) (.cons (.var 15) (.cons (.op .tuple (.cons (.op .ix (.cons (.var 16) (.cons (.lit (.int 0)) .nil))) .nil)) (.cons (.op .tuple (.cons (.op .ix (.cons (.var 16) (.cons (.lit (.int 1)) .nil))) .nil)) .nil)))))))
def f__law_right : Fd := ⟨17, 1, [0], (.cons (.asg 1 (.disp (.cons (.lit (.int 0)) .nil))) (.cons (.asg 2 C__law_right_1) (.cons (.asg 4 (.ex (.fr (.call 22 (.ref 0 (.fx (.ex (.frz 2)) (.ref 1 .nil))))))) (.cons (.asg 5 (.ex (.ite (.op .eq (.cons (.fr (.call 17 (.ref 0 (.fx (.ex (.lit (.int 5))) .nil)))) (.cons (.lit (.int 0)) .nil))) (.var 4) (.fr (.call 22 (.ref 0 (.fx (.ex (.frz 2)) (.ref 1 .nil)))))))) (.cons (.asg 6 (.ex (.fr (.disp (.cons (.fr (.call 23 (.fx (.ex (.frz 2)) (.fx (.ex (.var 4)) .nil)))) (.cons (.fr (.call 23 (.fx (.ex (.frz 2)) (.fx (.ex (.var 5)) .nil)))) .nil)))))) (.cons (.ite (.or_ (.cons (.not_ (.fr (.call 26 (.fx (.ex (.frz 2)) (.fx (.ex (.var 4)) (.fx (.ex (.op .ix (.cons (.var 6) (.cons (.lit (.int 0)) .nil)))) .nil)))))) (.cons (.not_ (.fr (.call 26 (.fx (.ex (.frz 2)) (.fx (.ex (.var 5)) (.fx (.ex (.op .ix (.cons (.var 6) (.cons (.lit (.int 1)) .nil)))) .nil)))))) .nil))) (.cons (.ret (.ex (.lit (.bl false)))) .nil) .nil) (.cons (.par (.cons 7 (.ex (.fr (.call 24 (.fx (.ex (.frz 2)) (.fx (.ex (.var 4)) (.fx (.ex (.var 5)) .nil)))))) (.cons 8 (.ex (.fr (.call 15 (.fx (.ex (.op .tuple (.cons (.var 2) .nil))) (.fx (.ex (.op .tuple (.cons (.op .ix (.cons (.var 6) (.cons (.lit (.int 0)) .nil))) .nil))) (.fx (.ex (.op .tuple (.cons (.op .ix (.cons (.var 6) (.cons (.lit (.int 1)) .nil))) .nil))) .nil)))))) .nil))) (.cons (.ite (.op .ne (.cons (.op .repr (.cons (.var 8) .nil)) (.cons (.op .repr (.cons (.var 7) .nil)) .nil))) (.cons (.ret (.ex (.lit (.bl false)))) .nil) .nil) (.cons (.asg 9 C__law_right_3) (.cons (.asg 12 (.ex (.fr (.call 15 (.fx (.ex (.op .ix (.cons (.var 9) (.cons (.lit (.int 0)) .nil)))) (.fx (.ex (.op .ix (.cons (.var 9) (.cons (.lit (.int 2)) .nil)))) (.fx (.ex (.op .ix (.cons (.var 9) (.cons (.lit (.int 1)) .nil)))) .nil))))))) (.cons (.ite (.op .eq (.cons (.op .ix (.cons (.var 7) (.cons (.lit (.int 0)) .nil))) (.cons (.lit (.str [109, 101, 114, 103, 101, 100])) .nil))) (.cons (.ret (.ex (.op .eq (.cons (.op .repr (.cons (.var 12) .nil)) (.cons (.op .repr (.cons (.op .tup (.cons (.lit (.str [109, 101, 114, 103, 101, 100])) (.cons (.op .tuple (.cons (.fr C__law_right_4) .nil)) .nil))) .nil)) .nil))))) .nil) .nil) (.cons (.asg 13 C__law_right_7) (.cons (.ret (.ex (.op .eq (.cons (.op .repr (.cons (.var 12) .nil)) (.cons (.op .repr (.cons (.op .tup (.cons (.lit (.str [99, 108, 97, 115, 104])) (.cons (.op .tuple (.cons (.fr C__law_right_8) .nil)) .nil))) .nil)) .nil))))) .nil)))))))))))))⟩
def C_law_1 : Fx := (.comp [3] (.nm 3) (.rng1 (.lit (.int 3))) (.ex (.fr (.call 27 (.ref 2 .nil)))))
def L_law_1 : Sms := (.cons (.asg 2 (.call 16 (.fx (.ex (.var 0)) (.fx (.ex (.var 1)) .nil)))) (.cons (.ite (.not_ (.op .all (.cons (.fr C_law_1) .nil))) (.cons (.ret (.ex (.lit (.bl false)))) .nil) .nil) .nil))
def f_law : Fd := ⟨4, 1, [], (.cons (.for_ (.nm 1) (.ex (.fr (.call 19 (.fx (.ex (.var 0)) (.fx (.ex (.lit (.int 2))) .nil))))) L_law_1) (.cons (.ret (.ex (.lit (.bl true)))) .nil))⟩
theorem k_is_tuple : okSs (ckOf bi cs names ["value", "least", "most"]) (defScope (st 3)) f_is_tuple.body (defBody (st 3)) = true := by decide +kernel
theorem k_is_text : okSs (ckOf bi cs names ["value", "most", "sign"]) (defScope (st 4)) f_is_text.body (defBody (st 4)) = true := by decide +kernel
theorem k_check_row : okSs (ckOf bi cs names ["value", "text"]) (defScope (st 15)) f_check_row.body (defBody (st 15)) = true := by decide +kernel
theorem k_longest_from : okSs (ckOf bi cs names ["one", "other", "found", "place", "here", "there"]) (defScope (st 16)) f_longest_from.body (defBody (st 16)) = true := by decide +kernel
theorem k_pairs_of : okSs (ckOf bi cs names ["one", "other", "most", "pairs", "here", "there", "left", "good", "place", "at"]) (defScope (st 17)) f_pairs_of.body (defBody (st 17)) = true := by decide +kernel
theorem k_fits : okSs (ckOf bi cs names ["one", "other", "most", "place", "at", "left"]) (defScope (st 18)) f_fits.body (defBody (st 18)) = true := by decide +kernel
theorem k_common : okSs (ckOf bi cs names ["one", "other"]) (defScope (st 19)) f_common.body (defBody (st 19)) = true := by decide +kernel
theorem k_blocks_of : okSs (ckOf bi cs names ["one", "other", "found", "here", "there", "kept", "place", "at"]) (defScope (st 20)) f_blocks_of.body (defBody (st 20)) = true := by decide +kernel
theorem k_changes : okSs (ckOf bi cs names ["one", "other"]) (defScope (st 21)) f_changes.body (defBody (st 21)) = true := by decide +kernel
theorem k_changed : okSs (ckOf bi cs names ["row", "value", "found", "here", "block"]) (defScope (st 22)) f_changed.body (defBody (st 22)) = true := by decide +kernel
theorem k_is_block : okSs (ckOf bi cs names ["value", "part", "text"]) (defScope (st 23)) f_is_block.body (defBody (st 23)) = true := by decide +kernel
theorem k_is_changes : okSs (ckOf bi cs names ["value", "block"]) (defScope (st 24)) f_is_changes.body (defBody (st 24)) = true := by decide +kernel
theorem k_stable_places : okSs (ckOf bi cs names ["base", "one", "other", "first", "last", "place", "at", "found"]) (defScope (st 25)) f_stable_places.body (defBody (st 25)) = true := by decide +kernel
theorem k_taken_of : okSs (ckOf bi cs names ["parts", "base", "one", "other"]) (defScope (st 26)) f_taken_of.body (defBody (st 26)) = true := by decide +kernel
theorem k_merged_rows : okSs (ckOf bi cs names ["base", "one", "other", "found", "clashes", "here", "places", "parts", "taken"]) (defScope (st 27)) f_merged_rows.body (defBody (st 27)) = true := by decide +kernel
theorem k_merged : okSs (ckOf bi cs names ["base", "one", "other", "row", "clashes"]) (defScope (st 28)) f_merged.body (defBody (st 28)) = true := by decide +kernel
theorem k__law_pot : okSs (ckOf bi cs names ["script", "place", "cell", "own", "small"]) (defScope (st 30)) f__law_pot.body (defBody (st 30)) = true := by decide +kernel
theorem k__law_take : okSs (ckOf bi cs names ["pot", "upto", "digit", "prime", "blend"]) (defScope (st 31)) f__law_take.body (defBody (st 31)) = true := by decide +kernel
theorem k__law_of : okSs (ckOf bi cs names ["pot", "some"]) (defScope (st 32)) f__law_of.body (defBody (st 32)) = true := by decide +kernel
theorem k__law_places : okSs (ckOf bi cs names ["script", "most"]) (defScope (st 33)) f__law_places.body (defBody (st 33)) = true := by decide +kernel
theorem k__law_signs : okSs (ckOf bi cs names []) (defScope (st 34)) f__law_signs.body (defBody (st 34)) = true := by decide +kernel
theorem k__law_fresh : okSs (ckOf bi cs names ["pot", "number", "body", "lap"]) (defScope (st 35)) f__law_fresh.body (defBody (st 35)) = true := by decide +kernel
theorem k__law_edit : okSs (ckOf bi cs names ["pot", "base", "counter", "found", "many", "at", "way", "fresh", "is_kept"]) (defScope (st 36)) f__law_edit.body (defBody (st 36)) = true := by decide +kernel
theorem k__law_done : okSs (ckOf bi cs names ["base", "edit", "found", "at", "fresh", "is_kept"]) (defScope (st 37)) f__law_done.body (defBody (st 37)) = true := by decide +kernel
theorem k__law_merged : okSs (ckOf bi cs names ["base", "one", "other", "row", "clashes", "begin", "parts", "at", "part", "edit", "plain"]) (defScope (st 38)) f__law_merged.body (defBody (st 38)) = true := by decide +kernel
theorem k__law_blocks : okSs (ckOf bi cs names ["base", "edit", "found", "out", "fresh", "at", "texts", "is_kept", "many"]) (defScope (st 39)) f__law_blocks.body (defBody (st 39)) = true := by decide +kernel
theorem k__law_is_way_right : okSs (ckOf bi cs names ["base", "edit", "row", "keeps", "at", "told", "back", "block"]) (defScope (st 40)) f__law_is_way_right.body (defBody (st 40)) = true := by decide +kernel
theorem k__law_right : okSs (ckOf bi cs names ["pot", "counter", "base", "at", "one", "other", "rows", "due", "told", "turned", "text", "row", "last", "pairs", "begin", "end", "p"]) (defScope (st 41)) f__law_right.body (defBody (st 41)) = true := by decide +kernel
theorem k_law : okSs (ckOf bi cs names ["script", "place", "pot", "lap"]) (defScope (st 42)) f_law.body (defBody (st 42)) = true := by decide +kernel
def z_is_tuple : Dfn (ckOf bi cs names) := ⟨dD "is_tuple" 3 [], ["value", "least", "most"], ["value", "least", "most"], f_is_tuple, rfl, C8.fnScope_by (by decide +kernel), k_is_tuple, rfl, rfl, by intro K f fdata F; exact F.bindsN (ps := ["value", "least", "most"]) fun kV doc pm an cdv ct us hl => match us, hl with | [_, _, _], _ => rfl, by decide +kernel⟩
def z_is_text : Dfn (ckOf bi cs names) := ⟨dD "is_text" 4 [.int 400], ["value", "most", "sign"], ["value", "most"], f_is_text, rfl, C8.fnScope_by (by decide +kernel), k_is_text, rfl, rfl, by intro K f fdata F; obtain ⟨ds, h1, h2⟩ := F.binds1 (ps := ["value", "most"]) 2 1 (by intro e; cases e) rfl (fun T kV doc pm an cdv ct us its hu hi => match us, its, hu, hi with | [_, _], [_], _, _ => ⟨_, rfl, rfl⟩); cases h1; exact h2, by decide +kernel⟩
def z_check_row : Dfn (ckOf bi cs names) := ⟨dD "check_row" 15 [], ["value", "text"], ["value"], f_check_row, rfl, C8.fnScope_by (by decide +kernel), k_check_row, rfl, rfl, by intro K f fdata F; exact F.bindsN (ps := ["value"]) fun kV doc pm an cdv ct us hl => match us, hl with | [_], _ => rfl, by decide +kernel⟩
def z_longest_from : Dfn (ckOf bi cs names) := ⟨dD "longest_from" 16 [], ["one", "other", "found", "place", "here", "there"], ["one", "other"], f_longest_from, rfl, C8.fnScope_by (by decide +kernel), k_longest_from, rfl, rfl, by intro K f fdata F; exact F.bindsN (ps := ["one", "other"]) fun kV doc pm an cdv ct us hl => match us, hl with | [_, _], _ => rfl, by decide +kernel⟩
def z_pairs_of : Dfn (ckOf bi cs names) := ⟨dD "pairs_of" 17 [], ["one", "other", "most", "pairs", "here", "there", "left", "good", "place", "at"], ["one", "other"], f_pairs_of, rfl, C8.fnScope_by (by decide +kernel), k_pairs_of, rfl, rfl, by intro K f fdata F; exact F.bindsN (ps := ["one", "other"]) fun kV doc pm an cdv ct us hl => match us, hl with | [_, _], _ => rfl, by decide +kernel⟩
def z_fits : Dfn (ckOf bi cs names) := ⟨dD "fits" 18 [], ["one", "other", "most", "place", "at", "left"], ["one", "other", "most", "place", "at", "left"], f_fits, rfl, C8.fnScope_by (by decide +kernel), k_fits, rfl, rfl, by intro K f fdata F; exact F.bindsN (ps := ["one", "other", "most", "place", "at", "left"]) fun kV doc pm an cdv ct us hl => match us, hl with | [_, _, _, _, _, _], _ => rfl, by decide +kernel⟩
def z_common : Dfn (ckOf bi cs names) := ⟨dD "common" 19 [], ["one", "other"], ["one", "other"], f_common, rfl, C8.fnScope_by (by decide +kernel), k_common, rfl, rfl, by intro K f fdata F; exact F.bindsN (ps := ["one", "other"]) fun kV doc pm an cdv ct us hl => match us, hl with | [_, _], _ => rfl, by decide +kernel⟩
def z_blocks_of : Dfn (ckOf bi cs names) := ⟨dD "blocks_of" 20 [], ["one", "other", "found", "here", "there", "kept", "place", "at"], ["one", "other"], f_blocks_of, rfl, C8.fnScope_by (by decide +kernel), k_blocks_of, rfl, rfl, by intro K f fdata F; exact F.bindsN (ps := ["one", "other"]) fun kV doc pm an cdv ct us hl => match us, hl with | [_, _], _ => rfl, by decide +kernel⟩
def z_changes : Dfn (ckOf bi cs names) := ⟨dD "changes" 21 [], ["one", "other"], ["one", "other"], f_changes, rfl, C8.fnScope_by (by decide +kernel), k_changes, rfl, rfl, by intro K f fdata F; exact F.bindsN (ps := ["one", "other"]) fun kV doc pm an cdv ct us hl => match us, hl with | [_, _], _ => rfl, by decide +kernel⟩
def z_changed : Dfn (ckOf bi cs names) := ⟨dD "changed" 22 [], ["row", "value", "found", "here", "block"], ["row", "value"], f_changed, rfl, C8.fnScope_by (by decide +kernel), k_changed, rfl, rfl, by intro K f fdata F; exact F.bindsN (ps := ["row", "value"]) fun kV doc pm an cdv ct us hl => match us, hl with | [_, _], _ => rfl, by decide +kernel⟩
def z_is_block : Dfn (ckOf bi cs names) := ⟨dD "is_block" 23 [], ["value", "part", "text"], ["value"], f_is_block, rfl, C8.fnScope_by (by decide +kernel), k_is_block, rfl, rfl, by intro K f fdata F; exact F.bindsN (ps := ["value"]) fun kV doc pm an cdv ct us hl => match us, hl with | [_], _ => rfl, by decide +kernel⟩
def z_is_changes : Dfn (ckOf bi cs names) := ⟨dD "is_changes" 24 [], ["value", "block"], ["value"], f_is_changes, rfl, C8.fnScope_by (by decide +kernel), k_is_changes, rfl, rfl, by intro K f fdata F; exact F.bindsN (ps := ["value"]) fun kV doc pm an cdv ct us hl => match us, hl with | [_], _ => rfl, by decide +kernel⟩
def z_stable_places : Dfn (ckOf bi cs names) := ⟨dD "stable_places" 25 [], ["base", "one", "other", "first", "last", "place", "at", "found"], ["base", "one", "other"], f_stable_places, rfl, C8.fnScope_by (by decide +kernel), k_stable_places, rfl, rfl, by intro K f fdata F; exact F.bindsN (ps := ["base", "one", "other"]) fun kV doc pm an cdv ct us hl => match us, hl with | [_, _, _], _ => rfl, by decide +kernel⟩
def z_taken_of : Dfn (ckOf bi cs names) := ⟨dD "taken_of" 26 [], ["parts", "base", "one", "other"], ["parts"], f_taken_of, rfl, C8.fnScope_by (by decide +kernel), k_taken_of, rfl, rfl, by intro K f fdata F; exact F.bindsN (ps := ["parts"]) fun kV doc pm an cdv ct us hl => match us, hl with | [_], _ => rfl, by decide +kernel⟩
def z_merged_rows : Dfn (ckOf bi cs names) := ⟨dD "merged_rows" 27 [], ["base", "one", "other", "found", "clashes", "here", "places", "parts", "taken"], ["base", "one", "other"], f_merged_rows, rfl, C8.fnScope_by (by decide +kernel), k_merged_rows, rfl, rfl, by intro K f fdata F; exact F.bindsN (ps := ["base", "one", "other"]) fun kV doc pm an cdv ct us hl => match us, hl with | [_, _, _], _ => rfl, by decide +kernel⟩
def z_merged : Dfn (ckOf bi cs names) := ⟨dD "merged" 28 [], ["base", "one", "other", "row", "clashes"], ["base", "one", "other"], f_merged, rfl, C8.fnScope_by (by decide +kernel), k_merged, rfl, rfl, by intro K f fdata F; exact F.bindsN (ps := ["base", "one", "other"]) fun kV doc pm an cdv ct us hl => match us, hl with | [_, _, _], _ => rfl, by decide +kernel⟩
def z__law_pot : Dfn (ckOf bi cs names) := ⟨dD "_law_pot" 30 [], ["script", "place", "cell", "own", "small"], ["script", "place"], f__law_pot, rfl, C8.fnScope_by (by decide +kernel), k__law_pot, rfl, rfl, by intro K f fdata F; exact F.bindsN (ps := ["script", "place"]) fun kV doc pm an cdv ct us hl => match us, hl with | [_, _], _ => rfl, by decide +kernel⟩
def z__law_take : Dfn (ckOf bi cs names) := ⟨dD "_law_take" 31 [], ["pot", "upto", "digit", "prime", "blend"], ["pot", "upto"], f__law_take, rfl, C8.fnScope_by (by decide +kernel), k__law_take, rfl, rfl, by intro K f fdata F; exact F.bindsN (ps := ["pot", "upto"]) fun kV doc pm an cdv ct us hl => match us, hl with | [_, _], _ => rfl, by decide +kernel⟩
def z__law_of : Dfn (ckOf bi cs names) := ⟨dD "_law_of" 32 [], ["pot", "some"], ["pot", "some"], f__law_of, rfl, C8.fnScope_by (by decide +kernel), k__law_of, rfl, rfl, by intro K f fdata F; exact F.bindsN (ps := ["pot", "some"]) fun kV doc pm an cdv ct us hl => match us, hl with | [_, _], _ => rfl, by decide +kernel⟩
def z__law_places : Dfn (ckOf bi cs names) := ⟨dD "_law_places" 33 [], ["script", "most"], ["script", "most"], f__law_places, rfl, C8.fnScope_by (by decide +kernel), k__law_places, rfl, rfl, by intro K f fdata F; exact F.bindsN (ps := ["script", "most"]) fun kV doc pm an cdv ct us hl => match us, hl with | [_, _], _ => rfl, by decide +kernel⟩
def z__law_signs : Dfn (ckOf bi cs names) := ⟨dD "_law_signs" 34 [], [], [], f__law_signs, rfl, C8.fnScope_by (by decide +kernel), k__law_signs, rfl, rfl, by intro K f fdata F; exact F.bindsN (ps := []) fun kV doc pm an cdv ct us hl => match us, hl with | [], _ => rfl, by decide +kernel⟩
def z__law_fresh : Dfn (ckOf bi cs names) := ⟨dD "_law_fresh" 35 [], ["pot", "number", "body", "lap"], ["pot", "number"], f__law_fresh, rfl, C8.fnScope_by (by decide +kernel), k__law_fresh, rfl, rfl, by intro K f fdata F; exact F.bindsN (ps := ["pot", "number"]) fun kV doc pm an cdv ct us hl => match us, hl with | [_, _], _ => rfl, by decide +kernel⟩
def z__law_edit : Dfn (ckOf bi cs names) := ⟨dD "_law_edit" 36 [], ["pot", "base", "counter", "found", "many", "at", "way", "fresh", "is_kept"], ["pot", "base", "counter"], f__law_edit, rfl, C8.fnScope_by (by decide +kernel), k__law_edit, rfl, rfl, by intro K f fdata F; exact F.bindsN (ps := ["pot", "base", "counter"]) fun kV doc pm an cdv ct us hl => match us, hl with | [_, _, _], _ => rfl, by decide +kernel⟩
def z__law_done : Dfn (ckOf bi cs names) := ⟨dD "_law_done" 37 [], ["base", "edit", "found", "at", "fresh", "is_kept"], ["base", "edit"], f__law_done, rfl, C8.fnScope_by (by decide +kernel), k__law_done, rfl, rfl, by intro K f fdata F; exact F.bindsN (ps := ["base", "edit"]) fun kV doc pm an cdv ct us hl => match us, hl with | [_, _], _ => rfl, by decide +kernel⟩
def z__law_merged : Dfn (ckOf bi cs names) := ⟨dD "_law_merged" 38 [], ["base", "one", "other", "row", "clashes", "begin", "parts", "at", "part", "edit", "plain"], ["base", "one", "other"], f__law_merged, rfl, C8.fnScope_by (by decide +kernel), k__law_merged, rfl, rfl, by intro K f fdata F; exact F.bindsN (ps := ["base", "one", "other"]) fun kV doc pm an cdv ct us hl => match us, hl with | [_, _, _], _ => rfl, by decide +kernel⟩
def z__law_blocks : Dfn (ckOf bi cs names) := ⟨dD "_law_blocks" 39 [], ["base", "edit", "found", "out", "fresh", "at", "texts", "is_kept", "many"], ["base", "edit"], f__law_blocks, rfl, C8.fnScope_by (by decide +kernel), k__law_blocks, rfl, rfl, by intro K f fdata F; exact F.bindsN (ps := ["base", "edit"]) fun kV doc pm an cdv ct us hl => match us, hl with | [_, _], _ => rfl, by decide +kernel⟩
def z__law_is_way_right : Dfn (ckOf bi cs names) := ⟨dD "_law_is_way_right" 40 [], ["base", "edit", "row", "keeps", "at", "told", "back", "block"], ["base", "edit", "row"], f__law_is_way_right, rfl, C8.fnScope_by (by decide +kernel), k__law_is_way_right, rfl, rfl, by intro K f fdata F; exact F.bindsN (ps := ["base", "edit", "row"]) fun kV doc pm an cdv ct us hl => match us, hl with | [_, _, _], _ => rfl, by decide +kernel⟩
def z__law_right : Dfn (ckOf bi cs names) := ⟨dD "_law_right" 41 [], ["pot", "counter", "base", "at", "one", "other", "rows", "due", "told", "turned", "text", "row", "last", "pairs", "begin", "end", "p"], ["pot"], f__law_right, rfl, C8.fnScope_by (by decide +kernel), k__law_right, rfl, rfl, by intro K f fdata F; exact F.bindsN (ps := ["pot"]) fun kV doc pm an cdv ct us hl => match us, hl with | [_], _ => rfl, by decide +kernel⟩
def z_law : Dfn (ckOf bi cs names) := ⟨dD "law" 42 [], ["script", "place", "pot", "lap"], ["script"], f_law, rfl, C8.fnScope_by (by decide +kernel), k_law, rfl, rfl, by intro K f fdata F; exact F.bindsN (ps := ["script"]) fun kV doc pm an cdv ct us hl => match us, hl with | [_], _ => rfl, by decide +kernel⟩
def txt : Txt bi cs names := ⟨[z_is_tuple, z_is_text, z_check_row, z_longest_from, z_pairs_of, z_fits, z_common, z_blocks_of, z_changes, z_changed, z_is_block, z_is_changes, z_stable_places, z_taken_of, z_merged_rows, z_merged, z__law_pot, z__law_take, z__law_of, z__law_places, z__law_signs, z__law_fresh, z__law_edit, z__law_done, z__law_merged, z__law_blocks, z__law_is_way_right, z__law_right, z_law], by decide +kernel, by decide +kernel⟩
end K34

set_option Elab.async false
set_option linter.all false
set_option maxRecDepth 2000
set_option maxHeartbeats 4000000
namespace K34
open PySem PySem.Spec PyProof.Rows L2 Em Mg
abbrev X := List Nat
def GG : Nat → Option D := gOf cs
def F (n : Nat) : Fns := Em.sem GG txt.fds n
def SG : List Nat := [10, 32, 44, 45, 46, 48, 49, 50, 51, 52, 53, 54, 55, 56, 57, 58, 59, 61, 97, 98, 99, 100, 101, 102, 103, 104, 105, 106, 107, 108, 109, 110, 111, 112, 113, 114, 115, 116, 117, 118, 119, 120, 121, 122]
def KEEP : List Nat := [107, 101, 101, 112]
def TURN : List Nat := [116, 117, 114, 110]
def MERGED : List Nat := [109, 101, 114, 103, 101, 100]
def CLASH : List Nat := [99, 108, 97, 115, 104]
@[simp] theorem g0 : GG 0 = some (.str SG) := rfl
@[simp] theorem g1 : GG 1 = some (.int 400) := rfl
@[simp] theorem g2 : GG 2 = some (.int 40) := rfl
@[simp] theorem g3 : GG 3 = some (.int 100) := rfl
@[simp] theorem g4 : GG 4 = some (.str KEEP) := rfl
@[simp] theorem g5 : GG 5 = some (.str TURN) := rfl
@[simp] theorem g6 : GG 6 = some (.str MERGED) := rfl
@[simp] theorem g7 : GG 7 = some (.str CLASH) := rfl
theorem F_eq {n g : Nat} {fd : Fd} {args : List T} {t : T} {us : List T} (hg : txt.fds g = some fd) (h1 : args.length = fd.params ∧ fd.params ≤ fd.slots ∧ pinned fd.pins 0 args = true)
    (h : WP (fd.body.runs (F n) GG fd.pins (args.map some ++ List.replicate (fd.slots - fd.params) none)) (Ret args fun t' us' => t' = t ∧ us' = us)) : F (n + 1) g args = some (t, us) := sem_eq hg h1 h
theorem F_ok {n g : Nat} {fd : Fd} {args : List T} {P : T → List T → Prop} (hg : txt.fds g = some fd) (h1 : args.length = fd.params ∧ fd.params ≤ fd.slots ∧ pinned fd.pins 0 args = true)
    (h : WP (fd.body.runs (F n) GG fd.pins (args.map some ++ List.replicate (fd.slots - fd.params) none)) (Ret args P)) : ∃ t us, F (n + 1) g args = some (t, us) ∧ P t us := sem_ok hg h1 h

theorem FQ {n g : Nat} {fd : Fd} {args : List T} {t : T} {us : List T} {ρ : Rho} {pins : List Nat} {body : Sms} (hg : txt.fds g = some fd) (h1 : args.length = fd.params ∧ fd.params ≤ fd.slots ∧ pinned fd.pins 0 args = true)
    (h2 : args.map some ++ List.replicate (fd.slots - fd.params) none = ρ) (h3 : fd.pins = pins) (h4 : fd.body = body)
    (h : WP (body.runs (F n) GG pins ρ) (Ret args fun t' us' => t' = t ∧ us' = us)) : F (n + 1) g args = some (t, us) := by
  subst h2 h3 h4
  exact sem_eq hg h1 h
theorem FP {n g : Nat} {fd : Fd} {args : List T} {P : T → List T → Prop} {ρ : Rho} {pins : List Nat} {body : Sms} (hg : txt.fds g = some fd) (h1 : args.length = fd.params ∧ fd.params ≤ fd.slots ∧ pinned fd.pins 0 args = true)
    (h2 : args.map some ++ List.replicate (fd.slots - fd.params) none = ρ) (h3 : fd.pins = pins) (h4 : fd.body = body)
    (h : WP (body.runs (F n) GG pins ρ) (Ret args P)) : ∃ t us, F (n + 1) g args = some (t, us) ∧ P t us := by
  subst h2 h3 h4
  exact sem_ok hg h1 h
theorem is_tuple_ok (n : Nat) (ds : List D) (a b : Int) : F (n + 1) 0 [.im (.tup ds), .im (.int a), .im (.int b)] = some (.im (.bl (decide (a ≤ ds.length) && decide ((ds.length : Int) ≤ b))), [.im (.tup ds), .im (.int a), .im (.int b)]) := by
  refine F_eq (fd := f_is_tuple) rfl ⟨rfl, by decide, rfl⟩ ?_
  unfold f_is_tuple
  by_cases h : a ≤ ds.length <;> simp [wp_cons, h]
theorem is_text_ok (n : Nat) (s : X) (a : Int) (hs : s.length ≤ 1000000) : F (n + 1) 1 [.im (.str s), .im (.int a)] = some (.im (.bl (decide ((s.length : Int) ≤ a) && s.all (· ∈ SG))), [.im (.str s), .im (.int a)]) := by
  refine F_eq (fd := f_is_text) rfl ⟨rfl, by decide, rfl⟩ ?_
  unfold f_is_text
  have hc : Fx.evf (F n) GG C_is_text_1 [some (.im (.str s)), some (.im (.int a)), none] = some (.ls (s.map fun c => .im (.bl (decide (c ∈ SG)))), [some (.im (.str s)), some (.im (.int a)), none]) := by
    unfold C_is_text_1
    refine compm_ok (hh := fun c => .str [c]) _ (by simp) (by simp) hs ?_ (by simp)
    intro c hc
    simp [opIn_str]
  by_cases h : (s.length : Int) ≤ a <;> simp [wp_cons, hs, hc, h, List.all_eq_true, Function.comp_def]

/-! ### rows -/
def rowD (r : List X) : D := .tup (r.map D.str)
def rowL (r : List X) : D := .lst (r.map D.str)
def Tx (x : X) : Prop := x.length ≤ 100 ∧ ∀ c ∈ x, c ∈ SG
def Rw (r : List X) : Prop := r.length ≤ 40 ∧ ∀ x ∈ r, Tx x
theorem check_row_ok (n : Nat) {r : List X} (h : Rw r) : F (n + 2) 2 [.im (rowD r)] = some (.im .non, [.im (rowD r)]) := by
  refine F_eq (fd := f_check_row) rfl ⟨rfl, by decide, rfl⟩ ?_
  unfold f_check_row rowD
  have h1 := h.1
  have hc : Fx.evf (F (n + 1)) GG C_check_row_1 [some (.im (.tup (r.map D.str))), none] = some (.ls (r.map fun x => .im (.bl true)), [some (.im (.tup (r.map D.str))), none]) := by
    unfold C_check_row_1
    refine compm_ok (hh := D.str) _ (by simp) (by simp) (by omega) ?_ (by simp)
    intro x hx
    obtain ⟨hx1, hx2⟩ := h.2 x hx
    have e : F (n + 1) 1 [.im (.str x), .im (.int 100)] = some (.im (.bl true), [.im (.str x), .im (.int 100)]) := by
      rw [is_text_ok n x 100 (by omega)]
      simp [show (x.length : Int) ≤ 100 by omega]
      exact hx2
    simp [e]
  rw [wp_cons]
  refine wp_ite ?_
  simp [hc, is_tuple_ok, Function.comp_def, show ¬ (40 : Int) < r.length by omega]
/-! ### tables -/
def tabT (f : Nat → Nat → Nat) (n m : Nat) : T := .ls ((List.range n).map fun i => .ls ((List.range m).map fun j => .im (.int (f i j))))
def tabD (f : Nat → Nat → Nat) (n m : Nat) : D := .lst ((List.range n).map fun i => .lst ((List.range m).map fun j => .int (f i j)))
theorem tab_view (f : Nat → Nat → Nat) (n m : Nat) : (tabT f n m).view = tabD f n m := by
  unfold tabT tabD
  simp [Function.comp_def]
theorem set_range {β : Type} {n i : Nat} {f : Nat → β} {v : β} : ((List.range n).map f).set i v = (List.range n).map fun k => if k = i then v else f k := by
  apply List.ext_getElem?
  intro k
  rw [List.getElem?_set]
  simp only [List.getElem?_map, List.length_map, List.length_range]
  by_cases h : i = k
  · subst h
    by_cases h2 : i < n
    · simp [h2]
    · simp [h2]
  · rw [if_neg h]
    by_cases h2 : k < n
    · simp [h2, show ¬ k = i from fun e => h e.symm]
    · simp [h2]
theorem tab_congr {f g : Nat → Nat → Nat} {n m : Nat} (h : ∀ i j, i < n → j < m → f i j = g i j) : tabT f n m = tabT g n m := by
  unfold tabT
  congr 1
  apply List.map_congr_left
  intro i hi
  congr 1
  apply List.map_congr_left
  intro j hj
  rw [h i j (List.mem_range.mp hi) (List.mem_range.mp hj)]
theorem atI_range {β : Type} {n i : Nat} {f : Nat → β} {a : Int} (e : a = (i : Int)) (h : i < n) : atI ((List.range n).map f) a = some (f i) := by
  rw [e, Em.atI_nat (by simpa using h)]
  simp [h]
theorem get_range {β : Type} {n i : Nat} {f : Nat → β} (h : i < n) : ((List.range n).map f)[i]? = some (f i) := by
  simp [h]
def trow (f : Nat → Nat → Nat) (m i : Nat) : T := .ls ((List.range m).map fun j => .im (.int (f i j)))
theorem tab_ix {f : Nat → Nat → Nat} {n m i : Nat} (h : i < n) : opIxA (tabT f n m) (.im (.int (i : Int))) = some (trow f m i) := by
  unfold tabT
  rw [opIxA_ls, atI_range rfl h]; rfl
theorem tab_ix1 {f : Nat → Nat → Nat} {n m i : Nat} (h : i + 1 < n) : opIxA (tabT f n m) (.im (.int ((i : Int) + 1))) = some (trow f m (i + 1)) := tab_ix (i := i + 1) h
theorem trow_ix {f : Nat → Nat → Nat} {m i j : Nat} (h : j < m) : opIxA (trow f m i) (.im (.int (j : Int))) = some (.im (.int (f i j))) := by
  unfold trow
  rw [opIxA_ls, atI_range rfl h]
theorem trow_ix1 {f : Nat → Nat → Nat} {m i j : Nat} (h : j + 1 < m) : opIxA (trow f m i) (.im (.int ((j : Int) + 1))) = some (.im (.int (f i (j + 1)))) := trow_ix (j := j + 1) h
theorem tab_at {f : Nat → Nat → Nat} {n m i : Nat} (h : i < n) : (tabT f n m).at [i] = some (.ls ((List.range m).map fun j => .im (.int (f i j)))) := by
  unfold tabT
  rw [at_cons, get_range h]
  simp
theorem tab_set {f : Nat → Nat → Nat} {n m i j : Nat} {v : Nat} (h : i < n) : (tabT f n m).setAt [i] (.ls (((List.range m).map fun j => T.im (.int (f i j))).set j (.im (.int v)))) = tabT (fun i' j' => if i' = i ∧ j' = j then v else f i' j') n m := by
  unfold tabT
  rw [setAt_cons, get_range h]
  simp only [setAt_nil, T.ls.injEq]
  rw [set_range, set_range]
  apply List.map_congr_left
  intro k _
  by_cases c : k = i
  · subst c
    simp only [if_true, true_and]
    congr 1
    apply List.map_congr_left
    intro k2 _
    by_cases c2 : k2 = j <;> simp [c2]
  · simp [c]
theorem tab_chg {f : Nat → Nat → Nat} {n m i j v : Nat} (h : i < n) (hj : j < m) : (match (tabT f n m).at [i] with
    | some (.ls ts) => (match (match ixN ts.length (j : Int) with
      | some k => some (ts.set k (T.im (.int (v : Int))))
      | none => none) with
      | some us => some ((tabT f n m).setAt [i] (.ls us))
      | none => none)
    | _ => none) = some (tabT (fun i' j' => if i' = i ∧ j' = j then v else f i' j') n m) := by
  rw [tab_at h]
  simp only
  rw [ixN_nat (by simpa using hj)]
  simp only
  rw [tab_set h]
theorem atI_str {r : List X} {i : Nat} {x : X} (h : r[i]? = some x) : atI (r.map D.str) (i : Int) = some (.str x) := by
  have hi : i < r.length := (List.getElem?_eq_some_iff.mp h).1
  rw [Em.atI_nat (by simpa using hi)]
  simp [h]
theorem int_max (x y : Nat) : (if (x : Int) < (y : Int) then (y : Int) else (x : Int)) = ((max x y : Nat) : Int) := by
  split <;> omega
theorem int_max' (x y : Nat) : (if x < y then (y : Int) else (x : Int)) = ((max x y : Nat) : Int) := by
  split <;> omega
theorem getD_str {r : List X} {i : Nat} {x : X} (h : r[i]? = some x) : (r.map D.str)[i]? = some (.str x) := by simp [h]
theorem hc_longest (n : Nat) {a b : List X} (ha : a.length ≤ 40) (hb : b.length ≤ 40) : ∀ x y z, Fx.evf (F n) GG C_longest_from_1 [some (.im (.tup (a.map D.str))), some (.im (.tup (b.map D.str))), x, none, y, z] = some (tabT (fun _ _ => 0) (a.length + 1) (b.length + 1), [some (.im (.tup (a.map D.str))), some (.im (.tup (b.map D.str))), x, none, y, z]) := by
  intro x y z
  unfold C_longest_from_1
  refine (compm_ok (ρ1 := [some (.im (.tup (a.map D.str))), some (.im (.tup (b.map D.str))), x, none, y, z]) (xs := List.range (a.length + 1)) (hh := fun k => D.int ((k : Nat) : Int)) (fun _ => .ls (List.replicate (b.length + 1) (.im (.int 0)))) ?_ ?_ ?_ ?_ ?_).trans ?_
  · exact evi1 (by simp <;> rfl) (rng2_to (by simp) (by omega))
  · simp
  · simp; omega
  · intro k hk
    simp [show (b.length : Int) + 1 ≤ 1000000 by omega, show (-1000000 : Int) ≤ (b.length : Int) + 1 by omega]
  · simp
  · unfold tabT
    simp [Function.comp_def, List.map_const']
theorem longest_ok (n : Nat) {a b : List X} {ps : List (Nat × Nat)} (C : Chn a b ps) (ha : a.length ≤ 40) (hb : b.length ≤ 40) :
    F (n + 1) 3 [.im (rowD a), .im (rowD b)] = some (.im (tabD (cnt ps) (a.length + 1) (b.length + 1)), [.im (rowD a), .im (rowD b)]) := by
  refine F_eq (fd := f_longest_from) rfl ⟨rfl, by decide, rfl⟩ ?_
  unfold f_longest_from rowD
  have hc := hc_longest n ha hb
  rw [wp_cons]
  simp [hc]
  rw [wp_cons]
  refine wp_for (ds := (List.range a.length).map fun (i : Nat) => D.int ((a.length : Int) - 1 - ((i : Nat) : Int))) (ρ1 := [some (.im (.tup (a.map D.str))), some (.im (.tup (b.map D.str))), some (tabT (fun _ _ => 0) (a.length + 1) (b.length + 1)), none, none, none])
    (fun k ρ => ∃ y z, ρ = [some (.im (.tup (a.map D.str))), some (.im (.tup (b.map D.str))), some (tabT (fun i j => if a.length ≤ i + k then cnt ps i j else 0) (a.length + 1) (b.length + 1)), none, y, z]) ?_ ?_ ?_ ?_
  · exact evi3 (by simp <;> rfl) (by simp <;> rfl) (by simp <;> rfl) (rng3_down rfl (by omega))
  · refine ⟨none, none, ?_⟩
    rw [tab_congr (f := fun _ _ => 0)]
    intro i j hi hj
    simp only [Nat.add_zero]
    split
    · exact (cnt_out C (.inl (by assumption))).symm
    · rfl
  · intro k d ρ hd hI
    obtain ⟨y, z, rfl⟩ := hI
    have hk : k < a.length := by
      have := (List.getElem?_eq_some_iff.mp hd).1
      simpa using this
    simp [hk] at hd
    subst hd
    obtain ⟨h, hh⟩ : ∃ h, a.length = h + k + 1 := ⟨a.length - 1 - k, by omega⟩
    have e : (a.length : Int) - 1 - (k : Int) = (h : Int) := by omega
    rw [e]
    simp
    unfold L_longest_from_2
    rw [wp_cons]
    refine wp_for (ds := (List.range b.length).map fun (i : Nat) => D.int ((b.length : Int) - 1 - ((i : Nat) : Int))) (ρ1 := [some (.im (.tup (a.map D.str))), some (.im (.tup (b.map D.str))), some (tabT (fun i j => if a.length ≤ i + k then cnt ps i j else 0) (a.length + 1) (b.length + 1)), none, some (.im (.int (h : Int))), z])
      (fun l ρ => ∃ f z, ρ = [some (.im (.tup (a.map D.str))), some (.im (.tup (b.map D.str))), some (tabT f (a.length + 1) (b.length + 1)), none, some (.im (.int (h : Int))), z] ∧ ∀ i j, i ≤ a.length → j ≤ b.length → f i j = if a.length ≤ i + k ∨ (i = h ∧ b.length ≤ j + l) then cnt ps i j else 0) ?_ ?_ ?_ ?_
    · exact evi3 (by simp <;> rfl) (by simp <;> rfl) (by simp <;> rfl) (rng3_down rfl (by omega))
    · refine ⟨_, z, rfl, ?_⟩
      intro i j hi hj
      by_cases c : a.length ≤ i + k
      · simp [c]
      · simp only [c, if_false, false_or]
        split
        · rename_i c2
          exact (cnt_out C (.inr (by omega))).symm
        · rfl
    · intro l d ρ hd hI
      obtain ⟨f, z, rfl, hf⟩ := hI
      have hl : l < b.length := by
        have := (List.getElem?_eq_some_iff.mp hd).1
        simpa using this
      simp [hl] at hd
      subst hd
      obtain ⟨t, ht⟩ : ∃ t, b.length = t + l + 1 := ⟨b.length - 1 - l, by omega⟩
      have e : (b.length : Int) - 1 - (l : Int) = (t : Int) := by omega
      rw [e]
      simp
      unfold L_longest_from_1
      rw [wp_cons]
      have v1 := hf (h + 1) t (by omega) (by omega)
      rw [if_pos (by omega)] at v1
      have v2 := hf h (t + 1) (by omega) (by omega)
      rw [if_pos (by omega)] at v2
      obtain ⟨x, hx⟩ : ∃ x, a[h]? = some x := ⟨_, List.getElem?_eq_getElem (by omega)⟩
      obtain ⟨y, hy⟩ : ∃ y, b[t]? = some y := ⟨_, List.getElem?_eq_getElem (by omega)⟩
      have w1 := tab_ix1 (f := f) (n := a.length + 1) (m := b.length + 1) (i := h) (by omega)
      have w2 := tab_ix (f := f) (n := a.length + 1) (m := b.length + 1) (i := h) (by omega)
      have w3 := trow_ix (f := f) (m := b.length + 1) (i := h + 1) (j := t) (by omega)
      have w4 := trow_ix1 (f := f) (m := b.length + 1) (i := h) (j := t) (by omega)
      have x1 := atI_str hx
      have y1 := atI_str hy
      have ix : ixN (b.length + 1) (t : Int) = some t := ixN_nat (by omega)
      have w5 := fun (f : Nat → Nat → Nat) => tab_at (f := f) (n := a.length + 1) (m := b.length + 1) (i := h) (by omega)
      have w6 := fun (f : Nat → Nat → Nat) (v : Nat) => tab_set (f := f) (n := a.length + 1) (m := b.length + 1) (i := h) (j := t) (v := v) (by omega)
      simp only [run_set, ev_op, evs_cons, ev_var]
      simp [w1, w2, w3, w4, v1, v2, int_max', w5, w6, ix, -setAt_cons]
      rw [wp_cons]
      refine wp_ite ?_
      simp [x1, y1]
      have key : ∀ g : Nat → Nat → Nat, g h t = cnt ps h t → (∀ i j, ¬ (i = h ∧ j = t) → g i j = f i j) → ∀ (i j : Nat), i ≤ a.length → j ≤ b.length → g i j = if a.length ≤ i + k ∨ i = h ∧ b.length ≤ j + (l + 1) then cnt ps i j else 0 := by
        intro g g1 g2 i j hi hj
        by_cases c : i = h ∧ j = t
        · rw [c.1, c.2, g1, if_pos (by omega)]
        · rw [g2 i j c, hf i j hi hj]
          by_cases c1 : a.length ≤ i + k
          · rw [if_pos (.inl c1), if_pos (.inl c1)]
          · by_cases c2 : i = h ∧ b.length ≤ j + l
            · rw [if_pos (.inr c2), if_pos (by omega)]
            · rw [if_neg (by omega), if_neg (by omega)]
      have mono1 : cnt ps (h + 1) t ≤ cnt ps h t := cnt_mono (by omega) (by omega)
      have mono2 : cnt ps h (t + 1) ≤ cnt ps h t := cnt_mono (by omega) (by omega)
      refine ⟨fun hxy => ?_, fun hxy => ?_⟩
      · have eqc := cnt_eq C (i := h) (j := t) (by omega) (by omega) (by rw [hx, hy, hxy])
        have v3 := hf (h + 1) (t + 1) (by omega) (by omega)
        rw [if_pos (by omega)] at v3
        rw [wp_cons]
        have u1 := fun (f : Nat → Nat → Nat) => tab_ix1 (f := f) (n := a.length + 1) (m := b.length + 1) (i := h) (by omega)
        have u2 := fun (f : Nat → Nat → Nat) => tab_ix (f := f) (n := a.length + 1) (m := b.length + 1) (i := h) (by omega)
        have u3 := fun (f : Nat → Nat → Nat) => trow_ix (f := f) (m := b.length + 1) (i := h) (j := t) (by omega)
        have u4 := fun (f : Nat → Nat → Nat) => trow_ix1 (f := f) (m := b.length + 1) (i := h + 1) (j := t) (by omega)
        have e3 : (1 : Int) + ((cnt ps (h + 1) (t + 1) : Nat) : Int) = ((cnt ps h t : Nat) : Int) := by omega
        simp [u1, u2, u3, u4, v3, e3, int_max', w5, w6, ix, -setAt_cons]
        have w7 := tab_set (f := fun i' j' => if i' = h ∧ j' = t then max (cnt ps (h + 1) t) (cnt ps h (t + 1)) else f i' j') (n := a.length + 1) (m := b.length + 1) (i := h) (j := t) (v := max (cnt ps (h + 1) t) (max (cnt ps h (t + 1)) (cnt ps h t))) (by omega)
        simp only [true_and] at w7
        refine ⟨_, w7, key _ ?_ ?_⟩
        · simp; omega
        · intro i j c
          simp [c]
      · have eqc := cnt_ne C (i := h) (j := t) (by rw [hx, hy]; simpa using hxy)
        refine ⟨_, rfl, key _ ?_ ?_⟩
        · simp [eqc]
        · intro i j c
          simp [c]
    · intro ρ hI
      obtain ⟨f, z, rfl, hf⟩ := hI
      rw [kon_nx, wp_nil, lp_nx]
      rw [List.length_map, List.length_range] at hf
      refine ⟨some (.im (.int (h : Int))), z, ?_⟩
      rw [tab_congr (g := fun i j => if a.length ≤ i + (k + 1) then cnt ps i j else 0)]
      intro i j hi hj
      rw [hf i j (by omega) (by omega)]
      by_cases c : a.length ≤ i + k
      · rw [if_pos (.inl c), if_pos (by omega)]
      · by_cases c2 : a.length = i + (k + 1)
        · rw [if_pos (.inr (by omega)), if_pos (by omega)]
        · rw [if_neg (by omega), if_neg (by omega)]
  · intro ρ hI
    obtain ⟨y, z, rfl⟩ := hI
    simp [wp_cons, tab_view]
end K34

set_option Elab.async false
set_option linter.all false
set_option maxRecDepth 2000
set_option maxHeartbeats 4000000
namespace K34
open PySem PySem.Spec PyProof.Rows L2 Em Mg
theorem tabD_ix {f : Nat → Nat → Nat} {n m i : Nat} (h : i < n) : opIxA (.im (tabD f n m)) (.im (.int (i : Int))) = some (.im (.lst ((List.range m).map fun j => .int (f i j)))) := by
  unfold tabD
  rw [opIxA_lst, atI_range rfl h]
theorem tabD_ix1 {f : Nat → Nat → Nat} {n m i : Nat} (h : i + 1 < n) : opIxA (.im (tabD f n m)) (.im (.int ((i : Int) + 1))) = some (.im (.lst ((List.range m).map fun j => .int (f (i + 1) j)))) := tabD_ix (i := i + 1) h
theorem fits_ok (n : Nat) {a b : List X} {f : Nat → Nat → Nat} {p q : Nat} {l : Int} (hp : p < a.length) (hq : q < b.length) :
    F (n + 1) 5 [.im (rowD a), .im (rowD b), .im (tabD f (a.length + 1) (b.length + 1)), .im (.int (p : Int)), .im (.int (q : Int)), .im (.int l)] = some (.im (.bl (decide (a[p]? = b[q]?) && decide ((f (p + 1) (q + 1) : Int) = l - 1))), [.im (rowD a), .im (rowD b), .im (tabD f (a.length + 1) (b.length + 1)), .im (.int (p : Int)), .im (.int (q : Int)), .im (.int l)]) := by
  refine F_eq (fd := f_fits) rfl ⟨rfl, by decide, rfl⟩ ?_
  unfold f_fits rowD
  obtain ⟨x, hx⟩ : ∃ x, a[p]? = some x := ⟨_, List.getElem?_eq_getElem (by omega)⟩
  obtain ⟨y, hy⟩ : ∃ y, b[q]? = some y := ⟨_, List.getElem?_eq_getElem (by omega)⟩
  have x1 := atI_str hx
  have y1 := atI_str hy
  have w1 := tabD_ix1 (f := f) (n := a.length + 1) (m := b.length + 1) (i := p) (by omega)
  have w2 : atI ((List.range (b.length + 1)).map fun j => D.int ((f (p + 1) j : Nat) : Int)) ((q : Int) + 1) = some (.int (f (p + 1) (q + 1))) := atI_range (i := q + 1) (by omega) (by omega)
  rw [hx, hy]
  by_cases c : x = y <;> simp [wp_cons, x1, y1, w1, w2, c]
/-! ### pairs -/
def prD (p : Nat × Nat) : D := .tup [.int (p.1 : Int), .int (p.2 : Int)]
theorem filter_one {q t n : Nat} {f : Nat → Bool} (h1 : t ≤ q) (h2 : q < t + n) (hf : ∀ x, t ≤ x → x < t + n → (f x = true ↔ x = q)) : (List.range' t n).filter f = [q] := by
  have e : (List.range' t n).filter f = (List.range' t n).filter (fun x => x == q) := by
    refine List.filter_congr fun x hx => ?_
    have := List.mem_range'_1.mp hx
    rw [Bool.eq_iff_iff, hf x this.1 this.2]
    simp
  rw [e, List.filter_beq]
  have : (List.range' t n).count q = 1 := by
    have nd : (List.range' t n).Nodup := List.nodup_range'
    have m : q ∈ List.range' t n := List.mem_range'_1.mpr ⟨h1, h2⟩
    exact nd.count.trans (if_pos m)
  rw [this]; rfl
theorem filter_none {t n : Nat} {f : Nat → Bool} (hf : ∀ x, t ≤ x → x < t + n → f x = false) : (List.range' t n).filter f = [] := by
  rw [List.filter_eq_nil_iff]
  intro x hx
  have := List.mem_range'_1.mp hx
  rw [hf x this.1 this.2]
  simp
theorem int_ok {i : Int} (h : i.natAbs < 2 ^ 64) : (D.int i).nice = true := by
  simp only [D.nice, decide_eq_true_eq]
  rcases Nat.eq_zero_or_pos i.natAbs with z | z
  · rw [z]; decide
  · have := (Nat.log2_lt (by omega : i.natAbs ≠ 0)).mpr h
    omega
theorem prD_ok {p : Nat × Nat} (h1 : p.1 ≤ 1000) (h2 : p.2 ≤ 1000) : (prD p).nice = true ∧ (prD p).dp ≤ 1 := by
  have i1 := int_ok (i := (p.1 : Int)) (by omega)
  have i2 := int_ok (i := (p.2 : Int)) (by omega)
  refine ⟨?_, by simp [prD, D.dp, dps]⟩
  unfold prD
  rw [D.nice, nices, nices, nices, i1, i2]; rfl
theorem chn_len {α : Type} {a b : List α} {ps : List (Nat × Nat)} (C : Chn a b ps) : ps.length ≤ a.length := by
  have : ∀ (qs : List (Nat × Nat)) (m : Nat), qs.Pairwise (fun p q => p.1 < q.1 ∧ p.2 < q.2) → (∀ p ∈ qs, m ≤ p.1 ∧ p.1 < a.length) → qs.length + m ≤ max m a.length := by
    intro qs
    induction qs with
    | nil => intro m _ _; simp; omega
    | cons p qs ih =>
      intro m h1 h2
      rw [List.pairwise_cons] at h1
      have := ih (p.1 + 1) h1.2 fun q hq => ⟨(h1.1 q hq).1, (h2 q (List.mem_cons_of_mem _ hq)).2⟩
      have := h2 p List.mem_cons_self
      simp only [List.length_cons]; omega
  have := this ps 0 C.asc fun p hp => ⟨by omega, (C.at_ p hp).1⟩
  omega
theorem w_pairs {a b : List X} {ps : List (Nat × Nat)} (C : Chn a b ps) (ha : a.length ≤ 40) (hb : b.length ≤ 40) (Φ : Fns)
    (H3 : Φ 3 [.im (rowD a), .im (rowD b)] = some (.im (tabD (cnt ps) (a.length + 1) (b.length + 1)), [.im (rowD a), .im (rowD b)]))
    (H5 : ∀ (p q : Nat) (l : Int), p < a.length → q < b.length → Φ 5 [.im (rowD a), .im (rowD b), .im (tabD (cnt ps) (a.length + 1) (b.length + 1)), .im (.int (p : Int)), .im (.int (q : Int)), .im (.int l)] = some (.im (.bl (decide (a[p]? = b[q]?) && decide ((cnt ps (p + 1) (q + 1) : Int) = l - 1))), [.im (rowD a), .im (rowD b), .im (tabD (cnt ps) (a.length + 1) (b.length + 1)), .im (.int (p : Int)), .im (.int (q : Int)), .im (.int l)])) :
    WP (f_pairs_of.body.runs Φ GG [] [some (.im (rowD a)), some (.im (rowD b)), none, none, none, none, none, none, none, none]) (Ret [T.im (rowD a), T.im (rowD b)] fun t' us' =>
        t' = T.im (D.lst (ps.map prD)) ∧ us' = [T.im (rowD a), T.im (rowD b)]) := by
  have hlen : ps.length ≤ 40 := Nat.le_trans (chn_len C) ha
  unfold f_pairs_of
  rw [wp_cons]
  simp [H3]
  rw [wp_cons]
  refine wp_while (n := ps.length) (fun m ρ => ∃ done h t g6 g7 g8, done ++ frm ps h t = ps ∧ m = cnt ps h t ∧ h ≤ a.length ∧ t ≤ b.length ∧
    ρ = [some (.im (rowD a)), some (.im (rowD b)), some (.im (tabD (cnt ps) (a.length + 1) (b.length + 1))), some (.ls (done.map fun p => .im (prD p))), some (.im (.int (h : Nat))), some (.im (.int (t : Nat))), g6, g7, g8, none]) (by omega) ?_ ?_
  · refine ⟨[], 0, 0, none, none, none, by rw [frm_zero]; rfl, by rw [Mg.cnt, frm_zero], by omega, by omega, ?_⟩
    simp
  · intro m ρ hI
    obtain ⟨done, h, t, g6, g7, g8, h1, h2, h3, h4, rfl⟩ := hI
    have w1 := tabD_ix (f := cnt ps) (n := a.length + 1) (m := b.length + 1) (i := h) (by omega)
    have w2 : atI ((List.range (b.length + 1)).map fun j => D.int ((cnt ps h j : Nat) : Int)) (t : Int) = some (.int (cnt ps h t)) := atI_range rfl (by omega)
    simp [w1, w2]
    refine ⟨fun hpos => ⟨by omega, ?_⟩, fun hz => ?_⟩
    · obtain ⟨p, q, r, hr⟩ : ∃ p q r, frm ps h t = (p, q) :: r := by
        cases e : frm ps h t with
        | nil => rw [Mg.cnt, e] at hpos; simp at hpos
        | cons x r => exact ⟨x.1, x.2, r, rfl⟩
      have hm : (p, q) ∈ ps ∧ h ≤ p ∧ t ≤ q := mem_frm.mp (by rw [hr]; exact List.mem_cons_self)
      have hat := C.at_ _ hm.1
      simp only at hat
      have hc : cnt ps h t = r.length + 1 := by rw [Mg.cnt, hr]; rfl
      have hr2 := frm_cons C.asc hr
      have fit : ∀ i x, h ≤ i → i < a.length → t ≤ x → x < b.length → (decide (a[i]? = b[x]?) && decide (((cnt ps (i + 1) (x + 1) : Nat) : Int) = ((cnt ps h t : Nat) : Int) - 1)) = true → i = p ∧ x = q ∨ p < i := by
        intro i x hi1 hi2 hx1 hx2 e
        simp only [Bool.and_eq_true, decide_eq_true_eq] at e
        have m := C.all i x hi2 hx2 e.1
        have m2 : (i, x) ∈ frm ps h t := mem_frm.mpr ⟨m, hi1, hx1⟩
        have A := frm_asc C.asc h t
        rw [hr] at m2 A
        rw [List.pairwise_cons] at A
        rcases List.mem_cons.mp m2 with z | z
        · cases z; exact .inl ⟨rfl, rfl⟩
        · have := A.1 _ z
          simp only at this
          exact .inr this.1
      have fitq : (decide (a[p]? = b[q]?) && decide (((cnt ps (p + 1) (q + 1) : Nat) : Int) = ((cnt ps h t : Nat) : Int) - 1)) = true := by
        simp only [Bool.and_eq_true, decide_eq_true_eq]
        refine ⟨hat.2.2, ?_⟩
        rw [Mg.cnt, hr2, hc]; omega
      unfold L_pairs_of_2
      rw [wp_cons]
      simp [w1, w2]
      rw [wp_cons]
      simp
      rw [wp_cons]
      refine wp_for (ds := (List.range' h (a.length - h)).map fun (i : Nat) => D.int ((i : Nat) : Int)) (ρ1 := [some (.im (rowD a)), some (.im (rowD b)), some (.im (tabD (cnt ps) (a.length + 1) (b.length + 1))), some (.ls (done.map fun p => .im (prD p))), some (.im (.int (h : Nat))), some (.im (.int (t : Nat))), some (.im (.int (cnt ps h t : Nat))), some (.ls []), g8, none])
        (fun i ρ => ∃ g8, ρ = [some (.im (rowD a)), some (.im (rowD b)), some (.im (tabD (cnt ps) (a.length + 1) (b.length + 1))), some (.ls (done.map fun p => .im (prD p))), some (.im (.int (h : Nat))), some (.im (.int (t : Nat))), some (.im (.int (cnt ps h t : Nat))), some (.ls (if h + i ≤ p then [] else [.im (prD (p, q))])), g8, none]) ?_ ?_ ?_ ?_
      · exact evi2 (by simp <;> rfl) (by simp [rowD] <;> rfl) (rng2_frm rfl rfl (by omega) (by omega))
      · exact ⟨g8, by rw [if_pos (by omega)]⟩
      · intro i d ρ hd hI
        obtain ⟨g8, rfl⟩ := hI
        have hi : i < a.length - h := by
          have := (List.getElem?_eq_some_iff.mp hd).1
          simpa using this
        simp [hi] at hd
        subst hd
        simp
        unfold L_pairs_of_1
        rw [wp_cons]
        refine wp_ite ?_
        have e2 : opEq (.lst []) (.lst []) = some true := rfl
        have e3 : ∀ d : D, d.nice = true → d.dp ≤ 1 → opEq (.lst [d]) (.lst []) = some false := fun d h1 h2 => by
          rw [opEq_ok (by unfold D.ok; simp [D.nice, nices, h1, D.dp, dps]; omega) rfl]; rfl
        by_cases c : h + i ≤ p
        · simp [c, e2]
          rw [wp_cons]
          have hcomp : Fx.evf Φ GG C_pairs_of_1 [some (.im (rowD a)), some (.im (rowD b)), some (.im (tabD (cnt ps) (a.length + 1) (b.length + 1))), some (.ls (done.map fun p => .im (prD p))), some (.im (.int (h : Nat))), some (.im (.int (t : Nat))), some (.im (.int (cnt ps h t : Nat))), some (.ls []), some (.im (.int ((h : Int) + (i : Int)))), none]
              = some (.ls (if h + (i + 1) ≤ p then [] else [.im (prD (p, q))]), [some (.im (rowD a)), some (.im (rowD b)), some (.im (tabD (cnt ps) (a.length + 1) (b.length + 1))), some (.ls (done.map fun p => .im (prD p))), some (.im (.int (h : Nat))), some (.im (.int (t : Nat))), some (.im (.int (cnt ps h t : Nat))), some (.ls []), some (.im (.int ((h : Int) + (i : Int)))), none]) := by
            unfold C_pairs_of_1
            refine (compIfm_ok (ρ1 := [some (.im (rowD a)), some (.im (rowD b)), some (.im (tabD (cnt ps) (a.length + 1) (b.length + 1))), some (.ls (done.map fun p => .im (prD p))), some (.im (.int (h : Nat))), some (.im (.int (t : Nat))), some (.im (.int (cnt ps h t : Nat))), some (.ls []), some (.im (.int ((h : Int) + (i : Int)))), none]) (xs := List.range' t (b.length - t)) (hh := fun k => D.int ((k : Nat) : Int))
              (fun x => decide (a[h + i]? = b[x]?) && decide (((cnt ps (h + i + 1) (x + 1) : Nat) : Int) = ((cnt ps h t : Nat) : Int) - 1)) (fun x => .im (prD (h + i, x))) ?_ ?_ ?_ ?_ ?_).trans ?_
            · exact evi2 (by simp <;> rfl) (by simp [rowD] <;> rfl) (rng2_frm rfl rfl (by omega) (by omega))
            · simp
            · simp; omega
            · intro x hx
              have hx := List.mem_range'_1.mp hx
              have := H5 (h + i) x (cnt ps h t : Nat) (by omega) (by omega)
              rw [Int.natCast_add] at this
              simp [this, prD]
            · simp
            · by_cases c2 : h + (i + 1) ≤ p
              · rw [if_pos c2, filter_none]
                · rfl
                · intro x hx1 hx2
                  rw [Bool.eq_false_iff]
                  intro e
                  rcases fit (h + i) x (by omega) (by omega) hx1 (by omega) e with z | z <;> omega
              · have c3 : h + i = p := by omega
                rw [if_neg c2, filter_one (q := q) hm.2.2 (by omega)]
                · rw [c3]; rfl
                · intro x hx1 hx2
                  refine ⟨fun e => ?_, fun e => ?_⟩
                  · rcases fit (h + i) x (by omega) (by omega) hx1 (by omega) e with z | z <;> omega
                  · rw [e, c3]; exact fitq
          simp [hcomp]
        · have := prD_ok (p := (p, q)) (by simp only; omega) (by simp only; omega)
          simp [c, e3 _ this.1 this.2]
          omega
      · intro ρ hI
        obtain ⟨g8, rfl⟩ := hI
        have lt : ¬ (h + (a.length - h) ≤ p) := by omega
        simp [lt]
        rw [wp_cons]
        have z0 : atI [T.im (prD (p, q))] 0 = some (.im (prD (p, q))) := rfl
        have z1 : atI [D.int (p : Int), D.int (q : Int)] 0 = some (.int (p : Int)) := rfl
        have z2 : atI [D.int (p : Int), D.int (q : Int)] 1 = some (.int (q : Int)) := rfl
        have z3 : done.length < 1000000 := by
          have := congrArg List.length h1
          rw [List.length_append] at this
          omega
        simp [z0, z3]
        rw [wp_cons]
        have zp : (D.tup [.int (p : Int), .int (q : Int)]) = prD (p, q) := rfl
        have zq : opIxA (.im (prD (p, q))) (.im (.int 0)) = some (.im (.int (p : Int))) := rfl
        have zr : opIxA (.im (prD (p, q))) (.im (.int 1)) = some (.im (.int (q : Int))) := rfl
        simp [z0, zq, zr]
        refine ⟨r.length, by omega, done ++ [(p, q)], p + 1, q + 1, ?_, ?_, by omega, by omega, ?_⟩
        · rw [hr2, ← h1, hr]; simp
        · rw [Mg.cnt, hr2]
        · simp
    · simp [wp_cons]
      have : frm ps h t = [] := by
        rw [Mg.cnt] at hz
        exact List.length_eq_zero_iff.mp hz
      rw [this, List.append_nil] at h1
      rw [h1]
      rfl
theorem pairs_ok (n : Nat) {a b : List X} {ps : List (Nat × Nat)} (C : Chn a b ps) (ha : a.length ≤ 40) (hb : b.length ≤ 40) :
    F (n + 2) 4 [.im (rowD a), .im (rowD b)] = some (.im (.lst (ps.map prD)), [.im (rowD a), .im (rowD b)]) :=
  FQ (fd := f_pairs_of) rfl ⟨rfl, by decide, rfl⟩ rfl rfl rfl (w_pairs C ha hb _ (longest_ok n C ha hb) fun p q l hp hq => fits_ok n (f := cnt ps) (l := l) hp hq)
end K34

set_option Elab.async false
set_option linter.all false
set_option maxRecDepth 2000
set_option maxHeartbeats 4000000
namespace K34
open PySem PySem.Spec PyProof.Rows L2 Em Mg
theorem common_ok (n : Nat) {a b : List X} {ps : List (Nat × Nat)} (C : Chn a b ps) (ha : Rw a) (hb : Rw b) :
    F (n + 3) 6 [.im (rowD a), .im (rowD b)] = some (.im (.tup (ps.map prD)), [.im (rowD a), .im (rowD b)]) := by
  refine FQ (fd := f_common) rfl ⟨rfl, by decide, rfl⟩ rfl rfl rfl ?_
  have : ∀ Φ : Fns, Φ 2 [.im (rowD a)] = some (.im .non, [.im (rowD a)]) → Φ 2 [.im (rowD b)] = some (.im .non, [.im (rowD b)]) → Φ 4 [.im (rowD a), .im (rowD b)] = some (.im (.lst (ps.map prD)), [.im (rowD a), .im (rowD b)]) →
      WP (f_common.body.runs Φ GG [] [some (.im (rowD a)), some (.im (rowD b))]) (Ret [.im (rowD a), .im (rowD b)] fun t' us' => t' = .im (.tup (ps.map prD)) ∧ us' = [.im (rowD a), .im (rowD b)]) := by
    intro Φ h1 h2 h3
    unfold f_common
    simp [wp_cons, h1, h2, h3]
  exact this _ (check_row_ok n ha) (check_row_ok n hb) (pairs_ok n C ha.1 hb.1)
/-! ### blocks -/
def bkD : Bk X → D
  | .keep n => .tup [.str KEEP, .int (n : Int)]
  | .turn o f => .tup [.str TURN, rowD o, rowD f]
theorem sl_row {a : List X} {i j : Nat} (h : a.length ≤ 1000) (hi : i ≤ a.length) (hj : j ≤ a.length) : opSl (.im (rowD a)) (some (i : Int)) (some (j : Int)) = some (.im (rowD (sl a i j))) := by
  unfold rowD
  rw [opSl_tup (by simp; omega), cutA_nat (by simpa using hi) (by simpa using hj)]
  unfold sl
  simp
theorem opLen_row {a : List X} : opLen (.im (rowD a)) = some (a.length : Int) := by
  unfold rowD; simp
def LL (a b : List X) (ps : List (Nat × Nat)) : List (Nat × Nat) := ps ++ [(a.length, b.length)]
def bst (a b : List X) (ps : List (Nat × Nat)) (i : Nat) : PSt X := ((LL a b ps).take i).foldl (pstep a b) ⟨[], 0, 0, 0⟩
theorem bst_succ {a b : List X} {ps : List (Nat × Nat)} {i : Nat} {p : Nat × Nat} (h : (LL a b ps)[i]? = some p) : bst a b ps (i + 1) = pstep a b (bst a b ps i) p := by
  unfold bst
  rw [List.take_add_one, h]
  simp
def I_blocks (a b : List X) (ps : List (Nat × Nat)) (i : Nat) (ρ : Rho) : Prop :=
  ∃ f h t k g6 g7, bst a b ps i = ⟨f, h, t, k⟩ ∧ f.length ≤ 2 * i ∧ k ≤ i ∧ (i < (LL a b ps).length → h ≤ a.length ∧ t ≤ b.length) ∧
      ρ = [some (.im (rowD a)), some (.im (rowD b)), some (.ls (f.map fun k => .im (bkD k))), some (.im (.int (h : Nat))), some (.im (.int (t : Nat))), some (.im (.int (k : Nat))), g6, g7]
theorem w_blocks {a b : List X} {ps : List (Nat × Nat)} (C : Chn a b ps) (ha : a.length ≤ 40) (hb : b.length ≤ 40) (Φ : Fns)
    (H4 : Φ 4 [.im (rowD a), .im (rowD b)] = some (.im (.lst (ps.map prD)), [.im (rowD a), .im (rowD b)])) :
    WP (f_blocks_of.body.runs Φ GG [] [some (.im (rowD a)), some (.im (rowD b)), none, none, none, none, none, none]) (Ret [T.im (rowD a), T.im (rowD b)] fun t' us' =>
        t' = T.im (D.lst ((blocksP a b ps).map bkD)) ∧ us' = [T.im (rowD a), T.im (rowD b)]) := by
  have hlen : ps.length ≤ 40 := Nat.le_trans (chn_len C) ha
  have hL : (LL a b ps).length = ps.length + 1 := by simp [LL]
  unfold f_blocks_of
  rw [wp_cons]
  simp
  rw [wp_cons]
  refine wp_for (ds := (LL a b ps).map prD) (ρ1 := [some (.im (rowD a)), some (.im (rowD b)), some (.ls []), some (.im (.int 0)), some (.im (.int 0)), some (.im (.int 0)), none, none]) (I_blocks a b ps) ?_ ?_ ?_ ?_
  · have e : opStarL (.im (.lst (ps.map prD))) [.im (.tup [.int a.length, .int b.length])] = some (.im (.lst ((LL a b ps).map prD))) := by
      unfold opStarL LL
      simp [prD]
      omega
    simp [H4, opLen_row, e]
  · exact ⟨[], 0, 0, 0, none, none, rfl, by simp, by simp, fun _ => ⟨Nat.zero_le _, Nat.zero_le _⟩, by simp⟩
  · intro i d ρ hd hI
    obtain ⟨f, h, t, k, g6, g7, hst, hf, hk, hh, rfl⟩ := hI
    have hi : i < (LL a b ps).length := by
      have := (List.getElem?_eq_some_iff.mp hd).1
      simpa using this
    obtain ⟨h1, h2⟩ := hh hi
    obtain ⟨p, hp⟩ : ∃ p, (LL a b ps)[i]? = some p := ⟨_, List.getElem?_eq_getElem hi⟩
    rw [List.getElem?_map, hp] at hd
    cases hd
    have hpm : p ∈ LL a b ps := List.mem_of_getElem? hp
    have hp1 : p.1 ≤ a.length ∧ p.2 ≤ b.length := by
      rcases List.mem_append.mp hpm with m | m
      · have := C.at_ p m; omega
      · rw [List.mem_singleton.mp m]; exact ⟨Nat.le_refl _, Nat.le_refl _⟩
    have hp2 : i + 1 < (LL a b ps).length → p.1 < a.length ∧ p.2 < b.length := fun z => by
      have : (LL a b ps)[i]? = ps[i]? := by
        unfold LL
        rw [List.getElem?_append_left (by omega)]
      rw [this] at hp
      have := C.at_ p (List.mem_of_getElem? hp)
      exact ⟨this.1, this.2.1⟩
    have hs := bst_succ hp
    rw [hst] at hs
    unfold pstep at hs
    unfold prD
    simp
    unfold L_blocks_of_1
    rw [wp_cons]
    refine wp_ite ?_
    have s1 := sl_row (a := a) (i := h) (j := p.1) (by omega) h1 hp1.1
    have s2 := sl_row (a := b) (i := t) (j := p.2) (by omega) h2 hp1.2
    simp
    refine ⟨fun c => ?_, fun c c2 => ?_⟩
    · rw [if_pos (by omega)] at hs
      simp only at hs
      rw [wp_cons]
      refine wp_ite ?_
      simp
      refine ⟨fun ck => ?_, fun ck => ?_⟩
      · have l1 : f.length < 1000000 := by omega
        have l2 : f.length + 1 < 1000000 := by omega
        rw [if_pos ck] at hs
        rw [wp_cons]
        simp [l1]
        rw [wp_cons]
        simp [l2, s1, s2]
        rw [wp_cons]
        simp
        rw [wp_cons]
        simp
        exact ⟨_, _, _, _, some (.im (.int (p.1 : Nat))), some (.im (.int (p.2 : Nat))), hs, by simp; omega, by omega, fun z => by have := hp2 z; omega, by simp [bkD]⟩
      · have l1 : f.length < 1000000 := by omega
        rw [if_neg (by omega)] at hs
        rw [wp_cons]
        simp [l1, s1, s2]
        rw [wp_cons]
        simp
        rw [wp_cons]
        simp
        exact ⟨_, _, _, _, some (.im (.int (p.1 : Nat))), some (.im (.int (p.2 : Nat))), hs, by simp; omega, by omega, fun z => by have := hp2 z; omega, by simp [bkD]⟩
    · rw [if_neg (by simp only; omega)] at hs
      simp only at hs
      rw [wp_cons]
      simp
      exact ⟨f, _, _, _, some (.im (.int (p.1 : Nat))), some (.im (.int (p.2 : Nat))), hs, by omega, by omega, fun z => by have := hp2 z; omega, by simp⟩
  · intro ρ hI
    obtain ⟨f, h, t, k, g6, g7, hst, hf, hk, hh, rfl⟩ := hI
    have e : blocksP a b ps = pend ⟨f, h, t, k⟩ := by
      unfold blocksP
      rw [← hst]
      unfold bst
      rw [List.length_map, List.take_of_length_le (Nat.le_refl _)]
      rfl
    have hend : f.length ≤ 100 ∧ k ≤ 50 := by
      rw [List.length_map, hL] at hf hk
      omega
    rw [e]
    unfold pend
    simp
    rw [wp_cons]
    by_cases ck : 1 < k
    · have e2 : opStarL (.ls (f.map fun k => .im (bkD k))) [.im (.tup [.str KEEP, .int ((k : Int) - 1)])] = some (.im (.lst ((f ++ [Bk.keep (k - 1)]).map bkD))) := by
        unfold opStarL
        simp [bkD]
        exact ⟨by omega, by omega⟩
      simp [show (1 : Int) < (k : Int) by omega, e2, ck]
    · simp [show ¬ (1 : Int) < (k : Int) by omega, ck, Function.comp_def]
theorem blocks_ok (n : Nat) {a b : List X} {ps : List (Nat × Nat)} (C : Chn a b ps) (ha : a.length ≤ 40) (hb : b.length ≤ 40) :
    F (n + 3) 7 [.im (rowD a), .im (rowD b)] = some (.im (.lst ((blocksP a b ps).map bkD)), [.im (rowD a), .im (rowD b)]) :=
  FQ (fd := f_blocks_of) rfl ⟨rfl, by decide, rfl⟩ rfl rfl rfl (w_blocks C ha hb _ (pairs_ok n C ha hb))
theorem changes_ok (n : Nat) {a b : List X} {ps : List (Nat × Nat)} (C : Chn a b ps) (ha : Rw a) (hb : Rw b) :
    F (n + 4) 8 [.im (rowD a), .im (rowD b)] = some (.im (.tup ((blocksP a b ps).map bkD)), [.im (rowD a), .im (rowD b)]) := by
  refine FQ (fd := f_changes) rfl ⟨rfl, by decide, rfl⟩ rfl rfl rfl ?_
  have : ∀ Φ : Fns, Φ 2 [.im (rowD a)] = some (.im .non, [.im (rowD a)]) → Φ 2 [.im (rowD b)] = some (.im .non, [.im (rowD b)]) → Φ 7 [.im (rowD a), .im (rowD b)] = some (.im (.lst ((blocksP a b ps).map bkD)), [.im (rowD a), .im (rowD b)]) →
      WP (f_changes.body.runs Φ GG [] [some (.im (rowD a)), some (.im (rowD b))]) (Ret [.im (rowD a), .im (rowD b)] fun t' us' => t' = .im (.tup ((blocksP a b ps).map bkD)) ∧ us' = [.im (rowD a), .im (rowD b)]) := by
    intro Φ h1 h2 h3
    unfold f_changes
    simp [wp_cons, h1, h2, h3]
  exact this _ (check_row_ok (n + 1) ha) (check_row_ok (n + 1) hb) (blocks_ok n C ha.1 hb.1)
end K34

set_option Elab.async false
set_option linter.all false
set_option maxRecDepth 2000
set_option maxHeartbeats 4000000
namespace K34
open PySem PySem.Spec PyProof.Rows L2 Em Mg
theorem sg_lt : ∀ c ∈ SG, c < 0x110000 := by decide
theorem str_nice {x : X} (h : Tx x) : (D.str x).nice = true := by
  simp only [D.nice, List.all_eq_true, decide_eq_true_eq]
  exact fun c hc => sg_lt c (h.2 c hc)
theorem strs_nice {r : List X} (h : ∀ x ∈ r, Tx x) : nices (r.map D.str) = true := by
  rw [nices_iff]
  intro d hd
  obtain ⟨x, hx, rfl⟩ := List.mem_map.mp hd
  exact str_nice (h x hx)
theorem strs_dps {r : List X} : dps (r.map D.str) = 0 := by
  induction r with
  | nil => rfl
  | cons x r ih => rw [List.map_cons, dps, ih]; rfl
theorem strs_pl {r : List X} : pls (r.map D.str) = true := by
  induction r with
  | nil => rfl
  | cons x r ih => rw [List.map_cons, pls, ih]; rfl
theorem row_ok {r : List X} (h : ∀ x ∈ r, Tx x) : (rowD r).ok = true := by
  unfold D.ok rowD
  rw [D.nice, strs_nice h, D.dp, strs_dps]; rfl
theorem rowL_ok {r : List X} (h : ∀ x ∈ r, Tx x) : (rowL r).ok = true := by
  unfold D.ok rowL
  rw [D.nice, strs_nice h, D.dp, strs_dps]; rfl
theorem strs_inj {a b : List X} : a.map D.str = b.map D.str ↔ a = b := by
  refine ⟨fun h => ?_, fun h => by rw [h]⟩
  induction a generalizing b with
  | nil => cases b with
    | nil => rfl
    | cons y b => simp at h
  | cons x a ih => cases b with
    | nil => simp at h
    | cons y b =>
      rw [List.map_cons, List.map_cons, List.cons.injEq] at h
      cases h.1
      rw [ih h.2]
theorem opEq_row {a b : List X} (ha : ∀ x ∈ a, Tx x) (hb : ∀ x ∈ b, Tx x) : opEq (rowD a) (rowD b) = some (decide (a = b)) := by
  rw [opEq_ok (row_ok ha) (row_ok hb)]
  congr 1
  rw [Bool.eq_iff_iff, eqb_iff (by unfold rowD; rw [D.pl]; exact strs_pl) (by unfold rowD; rw [D.pl]; exact strs_pl), decide_eq_true_eq]
  unfold rowD
  rw [D.tup.injEq, strs_inj]
theorem opEq_rowL {a b : List X} (ha : ∀ x ∈ a, Tx x) (hb : ∀ x ∈ b, Tx x) : opEq (rowL a) (rowL b) = some (decide (a = b)) := by
  rw [opEq_ok (rowL_ok ha) (rowL_ok hb)]
  congr 1
  rw [Bool.eq_iff_iff, eqb_iff (by unfold rowL; rw [D.pl]; exact strs_pl) (by unfold rowL; rw [D.pl]; exact strs_pl), decide_eq_true_eq]
  unfold rowL
  rw [D.lst.injEq, strs_inj]
/-! ### changed -/
def Fine : Bk X → Prop
  | .keep n => 0 < n ∧ n ≤ 1000
  | .turn o f => Rw o ∧ Rw f
theorem texts_ok {Φ : Fns} (H1 : ∀ (x : X) (m : Int), x.length ≤ 1000000 → Φ 1 [.im (.str x), .im (.int m)] = some (.im (.bl (decide ((x.length : Int) ≤ m) && x.all (· ∈ SG))), [.im (.str x), .im (.int m)])) {x : X} (h : Tx x) :
    Φ 1 [.im (.str x), .im (.int 100)] = some (.im (.bl true), [.im (.str x), .im (.int 100)]) := by
  have := h.1
  rw [H1 x 100 (by omega)]
  simp [show (x.length : Int) ≤ 100 by omega]
  exact h.2
theorem w_is_block {b : Bk X} (hb : Fine b) (Φ : Fns) (H0 : ∀ (ds : List D) (x y : Int), Φ 0 [.im (.tup ds), .im (.int x), .im (.int y)] = some (.im (.bl (decide (x ≤ ds.length) && decide ((ds.length : Int) ≤ y))), [.im (.tup ds), .im (.int x), .im (.int y)]))
    (H1 : ∀ (x : X) (m : Int), x.length ≤ 1000000 → Φ 1 [.im (.str x), .im (.int m)] = some (.im (.bl (decide ((x.length : Int) ≤ m) && x.all (· ∈ SG))), [.im (.str x), .im (.int m)])) :
    WP (f_is_block.body.runs Φ GG [] [some (.im (bkD b)), none, none]) (Ret [.im (bkD b)] fun t' us' => t' = .im (.bl true) ∧ us' = [.im (bkD b)]) := by
  unfold f_is_block
  cases b with
  | keep n =>
    have z0 : atI [D.str KEEP, D.int (n : Int)] 0 = some (.str KEEP) := rfl
    have z1 : atI [D.str KEEP, D.int (n : Int)] 1 = some (.int n) := rfl
    unfold bkD
    rw [wp_cons]
    refine wp_ite ?_
    simp [H0, z0]
    rw [wp_cons]
    refine wp_ite ?_
    simp [H0, z0]
    rw [wp_cons]
    have := hb.1
    simp [z1, this]
  | turn o f =>
    have z0 : atI [D.str TURN, rowD o, rowD f] 0 = some (.str TURN) := rfl
    have z1 : atI [D.str TURN, rowD o, rowD f] 1 = some (rowD o) := rfl
    have z2 : atI [D.str TURN, rowD o, rowD f] 2 = some (rowD f) := rfl
    have ne : ¬ TURN = KEEP := by decide
    have c1 : Fx.evf Φ GG C_is_block_1 [some (.im (.tup [D.str TURN, rowD o, rowD f])), none, none] = some (.ls ([o, f].map fun _ => .im (.bl true)), [some (.im (.tup [D.str TURN, rowD o, rowD f])), none, none]) := by
      unfold C_is_block_1
      refine compm_ok (hh := rowD) _ ?_ (by simp) (by simp) ?_ (by simp)
      · have : opSl (.im (.tup [D.str TURN, rowD o, rowD f])) (some 1) none = some (.im (.tup [rowD o, rowD f])) := by
          rw [opSl_tup (by simp)]; rfl
        simp [this]
      · intro r hr
        have hr2 : Rw r := by
          simp at hr
          rcases hr with e | e
          · rw [e]; exact hb.1
          · rw [e]; exact hb.2
        have := hr2.1
        have h0 := H0 (r.map D.str) 0 40
        simp [show (r.length : Int) ≤ 40 by omega] at h0
        have h0 : Φ 0 [.im (rowD r), .im (.int 0), .im (.int 40)] = some (.im (.bl true), [.im (rowD r), .im (.int 0), .im (.int 40)]) := h0
        simp [h0]
    have c2 : Fx.evf Φ GG C_is_block_2 [some (.im (.tup [D.str TURN, rowD o, rowD f])), none, none] = some (.ls ((o ++ f).map fun _ => .im (.bl true)), [some (.im (.tup [D.str TURN, rowD o, rowD f])), none, none]) := by
      unfold C_is_block_2
      have ho := hb.1.1
      have hf := hb.2.1
      refine compm_ok (hh := D.str) _ ?_ (by simp) (by simp; omega) ?_ (by simp)
      · have : opStarT (.im (rowD o)) (.im (rowD f)) = some (.im (.tup ((o ++ f).map D.str))) := by
          unfold opStarT rowD
          simp
          omega
        simp [z1, z2, this]
      · intro x hx
        have hx2 : Tx x := by
          rcases List.mem_append.mp hx with e | e
          · exact hb.1.2 x e
          · exact hb.2.2 x e
        simp [texts_ok H1 hx2]
    unfold bkD
    rw [wp_cons]
    refine wp_ite ?_
    simp [H0, z0]
    rw [wp_cons]
    refine wp_ite ?_
    simp [H0, z0, ne]
    rw [wp_cons]
    refine wp_ite ?_
    simp [z0, c1]
    rw [wp_cons]
    generalize o ++ f = l at c2
    simp [c2, Function.comp_def]
theorem is_block_ok (n : Nat) {b : Bk X} (hb : Fine b) : F (n + 2) 10 [.im (bkD b)] = some (.im (.bl true), [.im (bkD b)]) :=
  FQ (fd := f_is_block) rfl ⟨rfl, by decide, rfl⟩ rfl rfl rfl (w_is_block hb _ (is_tuple_ok n) fun x m h => is_text_ok n x m h)
theorem is_changes_ok (n : Nat) {bs : List (Bk X)} (hb : ∀ b ∈ bs, Fine b) (hl : bs.length ≤ 81) : F (n + 3) 11 [.im (.tup (bs.map bkD))] = some (.im (.bl true), [.im (.tup (bs.map bkD))]) := by
  refine FQ (fd := f_is_changes) rfl ⟨rfl, by decide, rfl⟩ rfl rfl rfl ?_
  have : ∀ Φ : Fns, (∀ b, Fine b → Φ 10 [.im (bkD b)] = some (.im (.bl true), [.im (bkD b)])) → (∀ (ds : List D) (x y : Int), Φ 0 [.im (.tup ds), .im (.int x), .im (.int y)] = some (.im (.bl (decide (x ≤ ds.length) && decide ((ds.length : Int) ≤ y))), [.im (.tup ds), .im (.int x), .im (.int y)])) →
      WP (f_is_changes.body.runs Φ GG [] [some (.im (.tup (bs.map bkD))), none]) (Ret [.im (.tup (bs.map bkD))] fun t' us' => t' = .im (.bl true) ∧ us' = [.im (.tup (bs.map bkD))]) := by
    intro Φ h10 h0
    have c1 : Fx.evf Φ GG C_is_changes_1 [some (.im (.tup (bs.map bkD))), none] = some (.ls (bs.map fun _ => .im (.bl true)), [some (.im (.tup (bs.map bkD))), none]) := by
      unfold C_is_changes_1
      refine compm_ok (hh := bkD) _ (by simp) (by simp) (by omega) ?_ (by simp)
      intro b hm
      simp [h10 b (hb b hm)]
    have m1 : opMul (.im (.int 2)) (.im (.int 40)) = some (.im (.int 80)) := opMul_of (lt_big (m := 10) (by decide) (by decide)) (lt_big (m := 10) (by decide) (by decide))
    unfold f_is_changes
    rw [wp_cons]
    simp [m1, h0, c1, show (bs.length : Int) ≤ 81 by omega, Function.comp_def]
  exact this _ (fun b h => is_block_ok n h) (is_tuple_ok (n + 1))
def I_changed (a b : List X) (bs : List (Bk X)) (i : Nat) (ρ : Rho) : Prop :=
  ∃ a1 a2 b1 b2 g4, a = a1 ++ a2 ∧ b = b1 ++ b2 ∧ Way (bs.drop i) a2 b2 ∧ ρ = [some (.im (rowD a)), some (.im (.tup (bs.map bkD))), some (.ls (b1.map fun x => .im (.str x))), some (.im (.int (a1.length : Nat))), g4]
theorem w_changed {a b : List X} {bs : List (Bk X)} (W : Way bs a b) (ha : Rw a) (hb : Rw b) (hf : ∀ k ∈ bs, Fine k) (Φ : Fns)
    (H2 : Φ 2 [.im (rowD a)] = some (.im .non, [.im (rowD a)])) (H11 : Φ 11 [.im (.tup (bs.map bkD))] = some (.im (.bl true), [.im (.tup (bs.map bkD))])) :
    WP (f_changed.body.runs Φ GG [] [some (.im (rowD a)), some (.im (.tup (bs.map bkD))), none, none, none]) (Ret [.im (rowD a), .im (.tup (bs.map bkD))] fun t' us' => t' = .im (rowD b) ∧ us' = [.im (rowD a), .im (.tup (bs.map bkD))]) := by
  have la := ha.1
  have lb := hb.1
  unfold f_changed
  rw [wp_cons]
  simp [H2]
  rw [wp_cons]
  refine wp_ite ?_
  simp [H11]
  rw [wp_cons]
  simp
  rw [wp_cons]
  refine wp_for (ds := bs.map bkD) (ρ1 := [some (.im (rowD a)), some (.im (.tup (bs.map bkD))), some (.ls []), some (.im (.int 0)), none]) (I_changed a b bs) (by simp) ?_ ?_ ?_
  · exact ⟨[], a, [], b, none, rfl, rfl, by simpa using W, by simp⟩
  · intro i d ρ hd hI
    obtain ⟨a1, a2, b1, b2, g4, ea, eb, hw, rfl⟩ := hI
    have hi : i < bs.length := by
      have := (List.getElem?_eq_some_iff.mp hd).1
      simpa using this
    rw [List.getElem?_map, List.getElem?_eq_getElem hi] at hd
    cases hd
    have hk := hf _ (List.getElem_mem hi)
    rw [List.drop_eq_getElem_cons hi] at hw
    simp
    unfold L_changed_1
    generalize hbk : bs[i] = k at hk hw ⊢
    cases k with
    | keep m =>
      have z0 : atI [D.str KEEP, D.int (m : Int)] 0 = some (.str KEEP) := rfl
      have z1 : atI [D.str KEEP, D.int (m : Int)] 1 = some (.int m) := rfl
      cases hw with
      | @keep _ a3 b3 xs ne hw =>
        have la1 : a.length = a1.length + (xs.length + a3.length) := by rw [ea]; simp
        have lb1 : b.length = b1.length + (xs.length + b3.length) := by rw [eb]; simp
        have s1 := sl_row (a := a) (i := a1.length) (j := a1.length + xs.length) (by omega) (by omega) (by omega)
        have e1 : sl a a1.length (a1.length + xs.length) = xs := by rw [ea]; exact sl_mid _ _ _
        rw [e1, Int.natCast_add] at s1
        unfold bkD
        rw [wp_cons]
        refine wp_ite ?_
        simp [z0]
        rw [wp_cons]
        refine wp_ite ?_
        simp [z1, opLen_row]
        refine ⟨fun c => by omega, fun _ => ?_⟩
        rw [wp_cons]
        have l1 : b1.length + xs.length ≤ 1000000 := by omega
        have q1 : T.seq? (.im (rowD xs)) = some (xs.map D.str) := rfl
        simp [z1, s1, q1, l1]
        rw [wp_cons]
        simp [z1]
        exact ⟨a1 ++ xs, a3, b1 ++ xs, b3, some (.im (bkD (.keep xs.length))), by rw [ea]; simp, by rw [eb]; simp, hw, by simp [bkD]⟩
    | turn o f =>
      have z0 : atI [D.str TURN, rowD o, rowD f] 0 = some (.str TURN) := rfl
      have z1 : atI [D.str TURN, rowD o, rowD f] 1 = some (rowD o) := rfl
      have z2 : atI [D.str TURN, rowD o, rowD f] 2 = some (rowD f) := rfl
      have ne : ¬ TURN = KEEP := by decide
      cases hw with
      | @turn _ a3 b3 _ _ hw =>
        have la1 : a.length = a1.length + (o.length + a3.length) := by rw [ea]; simp
        have lb1 : b.length = b1.length + (f.length + b3.length) := by rw [eb]; simp
        have s1 := sl_row (a := a) (i := a1.length) (j := a1.length + o.length) (by omega) (by omega) (by omega)
        have e1 : sl a a1.length (a1.length + o.length) = o := by rw [ea]; exact sl_mid _ _ _
        rw [e1, Int.natCast_add] at s1
        unfold bkD
        rw [wp_cons]
        refine wp_ite ?_
        simp [z0, ne]
        rw [wp_cons]
        refine wp_ite ?_
        simp [z1, opLen_row, s1, opEq_row hk.1.2 hk.1.2]
        rw [wp_cons]
        have l1 : b1.length + f.length ≤ 1000000 := by omega
        have q1 : T.seq? (.im (rowD f)) = some (f.map D.str) := rfl
        simp [z2, q1, l1]
        rw [wp_cons]
        simp [z1, opLen_row]
        exact ⟨a1 ++ o, a3, b1 ++ f, b3, some (.im (bkD (.turn o f))), by rw [ea]; simp, by rw [eb]; simp, hw, by simp [bkD]⟩
  · intro ρ hI
    obtain ⟨a1, a2, b1, b2, g4, ea, eb, hw, rfl⟩ := hI
    rw [List.length_map, List.drop_length] at hw
    cases hw
    rw [List.append_nil] at ea eb
    subst ea eb
    simp
    rw [wp_cons]
    refine wp_ite ?_
    simp [opLen_row]
    rw [wp_cons]
    simp [rowD]
theorem changed_ok (n : Nat) {a b : List X} {bs : List (Bk X)} (W : Way bs a b) (ha : Rw a) (hb : Rw b) (hl : bs.length ≤ 81) :
    F (n + 4) 9 [.im (rowD a), .im (.tup (bs.map bkD))] = some (.im (rowD b), [.im (rowD a), .im (.tup (bs.map bkD))]) := by
  have hf : ∀ k ∈ bs, Fine k := fun k hk => by
    have la := ha.1
    have lb := hb.1
    cases k with
    | keep m =>
      have := W.pos m hk
      exact ⟨this.1, by omega⟩
    | turn o f =>
      obtain ⟨h1, h2, h3, h4⟩ := W.sub o f hk
      exact ⟨⟨by omega, fun x hx => ha.2 x (h3 x hx)⟩, ⟨by omega, fun x hx => hb.2 x (h4 x hx)⟩⟩
  exact FQ (fd := f_changed) rfl ⟨rfl, by decide, rfl⟩ rfl rfl rfl (w_changed W ha hb hf _ (check_row_ok (n + 1) ha) (is_changes_ok n hf hl))
end K34

set_option Elab.async false
set_option linter.all false
set_option maxRecDepth 2000
set_option maxHeartbeats 4000000
namespace Em
open PySem PySem.Spec PyProof.Rows L2
section
variable {Φ : Fns} {G : Nat → Option D} {vs : List Nat} {tg : Tg} {it : It} {k v : Ex} {ρ ρ1 : Rho}
theorem pairsD_map {β : Type} {xs : List β} {kf vf : β → D} {key : β → Key} (h : ∀ x ∈ xs, (kf x).key = some (key x)) : pairsD (xs.map fun x => D.tup [kf x, vf x]) = some (xs.map fun x => (key x, vf x)) := by
  induction xs with
  | nil => rfl
  | cons x xs ih =>
    rw [List.map_cons, pairsD, h x List.mem_cons_self, ih fun y hy => h y (List.mem_cons_of_mem _ hy)]
    rfl
theorem dcompm_ok {β : Type} {xs : List β} {hh : β → D} (kf vf : β → D) (key : β → Key) (h : it.evi Φ G ρ = some (xs.map hh, ρ1)) (hp : plain vs ρ1 = true) (hl : xs.length ≤ 1000000) (hk : ∀ x ∈ xs, (kf x).key = some (key x))
    (ht : ∀ x ∈ xs, Wo (tg.bind [] (hh x) (wipeR ρ1 vs)) fun ρ2 => Wx (k.ev Φ G ρ2) fun t ρ3 => t = .im (kf x) ∧ Wx (v.ev Φ G ρ3) fun u ρ4 => u = .im (vf x) ∧ wipeR ρ4 vs = wipeR ρ1 vs) (hr : restore vs ρ1 (wipeR ρ1 vs) = ρ1) :
    (Ex.dcomp vs tg it k v).ev Φ G ρ = some (.im (dctOf (xs.map fun x => (key x, vf x))), ρ1) := by
  have hl2 : (xs.map hh).length ≤ LIM := by rw [List.length_map]; exact hl
  rw [Ex.ev, h]
  simp only [hp, hl2, decide_true, Bool.and_self, if_true]
  have : ∀ ys : List β, (∀ x ∈ ys, x ∈ xs) → compL (fun d ρ => match tg.bind [] d ρ with
            | some ρ2 => match k.ev Φ G ρ2 with
              | some (.im kd, ρ3) => match v.ev Φ G ρ3 with
                | some (.im vd, ρ4) => match kd.key with
                  | some _ => some (some (.im (.tup [kd, vd])), wipeR ρ4 vs)
                  | none => none
                | _ => none
              | _ => none
            | none => none) (ys.map hh) (wipeR ρ1 vs) = some (ys.map (fun x => T.im (.tup [kf x, vf x])), wipeR ρ1 vs) := by
    intro ys
    induction ys with
    | nil => intro _; rfl
    | cons y ys ih =>
      intro hy
      obtain ⟨ρ2, e1, h1⟩ := wo_ex.mp (ht y (hy y List.mem_cons_self))
      obtain ⟨u, ρ3, e2, h2, h3⟩ := wx_ex.mp h1
      obtain ⟨w, ρ4, e4, h4, h5⟩ := wx_ex.mp h3
      subst h2 h4
      rw [List.map_cons, compL]
      simp only [e1, e2, e4, hk y (hy y List.mem_cons_self), h5]
      rw [ih fun x hx => hy x (List.mem_cons_of_mem _ hx)]
      simp only [List.map_cons]
  have e := this xs fun _ h => h
  have e2 : imsOf (xs.map fun x => T.im (.tup [kf x, vf x])) = some (xs.map fun x => D.tup [kf x, vf x]) := imsOf_mapf
  refine (congrArg (fun (z : Option (List T × Rho)) => (match z with
    | some (ts, ρ5) => (match imsOf ts with
          | some us => (match pairsD us with
            | some kds => some (.im (dctOf kds), restore vs ρ1 ρ5)
            | none => none)
          | none => none)
    | none => none : Option (T × Rho))) e).trans ?_
  simp only [e2, pairsD_map hk, hr]
theorem putD_new {kds : List (Key × D)} {k : Key} {d : D} (h : k ∉ kds.map (·.1)) : putD kds k d = kds ++ [(k, d)] := by
  unfold putD
  rw [if_neg]
  intro e
  obtain ⟨x, hx, he⟩ := List.any_eq_true.mp e
  exact h (List.mem_map.mpr ⟨x, hx, by simpa using he⟩)
theorem dctOf_nodup {kds : List (Key × D)} (h : (kds.map (·.1)).Nodup) : dctOf kds = mkDct kds := by
  have : ∀ (kds acc : List (Key × D)), ((acc ++ kds).map (·.1)).Nodup → kds.foldl (fun m kd => putD m kd.1 kd.2) acc = acc ++ kds := by
    intro kds
    induction kds with
    | nil => intro acc _; simp
    | cons x kds ih =>
      intro acc hn
      rw [List.foldl_cons, putD_new, ih]
      · simp
      · simpa using hn
      · intro m
        rw [List.map_append, List.nodup_append] at hn
        exact hn.2.2 _ m _ (by simp) rfl
  unfold dctOf
  rw [this kds [] (by simpa using h), List.nil_append]
end
end Em
namespace K34
open PySem PySem.Spec PyProof.Rows L2 Em Mg
def pdct (ps : List (Nat × Nat)) : D := .dct (ps.map fun p => .inl (p.1 : Int)) (ps.map fun p => .int (p.2 : Int))
theorem pdct_of {ps : List (Nat × Nat)} (h : ps.Pairwise fun p q => p.1 < q.1 ∧ p.2 < q.2) : dctOf (ps.map fun p => ((.inl (p.1 : Int) : Key), D.int (p.2 : Int))) = pdct ps := by
  rw [dctOf_nodup]
  · unfold mkDct pdct
    simp [Function.comp_def]
  · rw [List.map_map]
    unfold List.Nodup
    rw [List.pairwise_map]
    refine h.imp fun {a b} hab e => ?_
    simp only [Function.comp_apply, Sum.inl.injEq] at e
    omega
theorem pdct_find (i : Nat) : ∀ ps : List (Nat × Nat), dFind (ps.map fun p => .inl (p.1 : Int)) (ps.map fun p => .int (p.2 : Int)) (.inl (i : Int)) = (lk ps i).map fun q => D.int (q : Int)
  | [] => rfl
  | p :: ps => by
    rw [List.map_cons, List.map_cons, dFind, pdct_find i ps]
    unfold lk
    rw [List.find?_cons]
    by_cases c : p.1 = i
    · simp [c]
    · have : ¬ ((Sum.inl (p.1 : Int) : Key) = Sum.inl (i : Int)) := fun e => c (by
        simp only [Sum.inl.injEq] at e; omega)
      rw [if_neg this]
      simp [c]
theorem pdct_in {ps : List (Nat × Nat)} {i : Nat} : opIn (.im (.int (i : Int))) (.im (pdct ps)) = some (lk ps i).isSome := by
  show (match D.key (.int (i : Int)) with
    | some k => some (dFind _ _ k).isSome
    | none => none) = _
  show some (dFind _ _ _).isSome = _
  rw [pdct_find]
  cases lk ps i <;> rfl
theorem pdct_ix {ps : List (Nat × Nat)} {i : Nat} (h : (lk ps i).isSome = true) : opIxA (.im (pdct ps)) (.im (.int (i : Int))) = some (.im (.int ((lk ps i).getD 0 : Nat))) := by
  show (match dFind _ _ _ with
      | some v => some (T.im v)
      | none => none) = _
  rw [pdct_find]
  cases e : lk ps i with
  | none => rw [e] at h; cases h
  | some q => rfl
def trD (p : Nat × Nat × Nat) : D := .tup [.int (p.1 : Int), .int (p.2.1 : Int), .int (p.2.2 : Int)]
def TT (a b c : List X) (ps qs : List (Nat × Nat)) : List (Nat × Nat × Nat) := ((List.range a.length).filter (good ps qs)).map (trip ps qs) ++ [(a.length, b.length, c.length)]
theorem w_stable {a b c : List X} {ps qs : List (Nat × Nat)} (C1 : Chn a b ps) (C2 : Chn a c qs) (ha : a.length ≤ 40) (Φ : Fns)
    (H1 : Φ 4 [.im (rowD a), .im (rowD b)] = some (.im (.lst (ps.map prD)), [.im (rowD a), .im (rowD b)])) (H2 : Φ 4 [.im (rowD a), .im (rowD c)] = some (.im (.lst (qs.map prD)), [.im (rowD a), .im (rowD c)])) :
    WP (f_stable_places.body.runs Φ GG [] [some (.im (rowD a)), some (.im (rowD b)), some (.im (rowD c)), none, none, none, none, none]) (Ret [.im (rowD a), .im (rowD b), .im (rowD c)] fun t' us' => t' = .im (.lst ((TT a b c ps qs).map trD)) ∧ us' = [.im (rowD a), .im (rowD b), .im (rowD c)]) := by
  have l1 := chn_len C1
  have l2 := chn_len C2
  have d1 : Ex.ev Φ GG D_stable_places_2 [some (.im (rowD a)), some (.im (rowD b)), some (.im (rowD c)), none, none, none, none, none] = some (.im (pdct ps), [some (.im (rowD a)), some (.im (rowD b)), some (.im (rowD c)), none, none, none, none, none]) := by
    rw [← pdct_of C1.asc]
    unfold D_stable_places_2
    exact dcompm_ok (xs := ps) (hh := prD) (fun p => .int (p.1 : Int)) (fun p => .int (p.2 : Int)) (fun p => .inl (p.1 : Int)) (by simp [H1]) (by simp) (by omega) (fun _ _ => rfl) (fun p hp => by simp [prD]) (by simp)
  have d2 : Ex.ev Φ GG D_stable_places_1 [some (.im (rowD a)), some (.im (rowD b)), some (.im (rowD c)), none, none, none, none, none] = some (.im (pdct qs), [some (.im (rowD a)), some (.im (rowD b)), some (.im (rowD c)), none, none, none, none, none]) := by
    rw [← pdct_of C2.asc]
    unfold D_stable_places_1
    exact dcompm_ok (xs := qs) (hh := prD) (fun p => .int (p.1 : Int)) (fun p => .int (p.2 : Int)) (fun p => .inl (p.1 : Int)) (by simp [H2]) (by simp) (by omega) (fun _ _ => rfl) (fun p hp => by simp [prD]) (by simp)
  have c1 : Fx.evf Φ GG C_stable_places_1 [some (.im (rowD a)), some (.im (rowD b)), some (.im (rowD c)), some (.im (pdct ps)), some (.im (pdct qs)), none, none, none] = some (.ls (((List.range a.length).filter (good ps qs)).map fun i => .im (trD (trip ps qs i))), [some (.im (rowD a)), some (.im (rowD b)), some (.im (rowD c)), some (.im (pdct ps)), some (.im (pdct qs)), none, none, none]) := by
    unfold C_stable_places_1
    refine compIfm_ok (xs := List.range a.length) (hh := fun k => D.int ((k : Nat) : Int)) (good ps qs) (fun i => .im (trD (trip ps qs i))) (evi1 (by simp [opLen_row] <;> rfl) (rng2_to rfl (by omega))) (by simp) (by simp; omega) ?_ (by simp)
    intro i hi
    simp [pdct_in, good]
    intro h1 h2
    simp [pdct_ix h1, pdct_ix h2, trD, trip]
  have e1 : opStarL (.ls (((List.range a.length).filter (good ps qs)).map fun i => .im (trD (trip ps qs i)))) [.im (.tup [.int a.length, .int b.length, .int c.length])] = some (.im (.lst ((TT a b c ps qs).map trD))) := by
    have := List.length_filter_le (good ps qs) (List.range a.length)
    rw [List.length_range] at this
    unfold opStarL TT
    simp [Function.comp_def, trD]
    omega
  unfold f_stable_places
  rw [wp_cons]
  simp [d1, d2]
  rw [wp_cons]
  simp [c1]
  rw [wp_cons]
  simp [e1, opLen_row]
theorem stable_ok (n : Nat) {a b c : List X} {ps qs : List (Nat × Nat)} (C1 : Chn a b ps) (C2 : Chn a c qs) (ha : a.length ≤ 40) (hb : b.length ≤ 40) (hc : c.length ≤ 40) :
    F (n + 3) 12 [.im (rowD a), .im (rowD b), .im (rowD c)] = some (.im (.lst ((TT a b c ps qs).map trD)), [.im (rowD a), .im (rowD b), .im (rowD c)]) :=
  FQ (fd := f_stable_places) rfl ⟨rfl, by decide, rfl⟩ rfl rfl rfl (w_stable C1 C2 ha _ (pairs_ok n C1 ha hb) (pairs_ok n C2 ha hc))
end K34

set_option Elab.async false
set_option linter.all false
set_option maxRecDepth 2000
set_option maxHeartbeats 4000000
namespace K34
open PySem PySem.Spec PyProof.Rows L2 Em Mg
theorem eqb_row {a b : List X} : (rowD a).eqb (rowD b) = decide (a = b) := by
  rw [Bool.eq_iff_iff, eqb_iff (by unfold rowD; rw [D.pl]; exact strs_pl) (by unfold rowD; rw [D.pl]; exact strs_pl), decide_eq_true_eq]
  unfold rowD
  rw [D.tup.injEq, strs_inj]
def optD : Option (List X) → D
  | some t => rowD t
  | none => .non
theorem taken_ok (n : Nat) {a b c : List X} (ha : ∀ x ∈ a, Tx x) (hb : ∀ x ∈ b, Tx x) (hc : ∀ x ∈ c, Tx x) : F (n + 1) 13 [.im (.tup [rowD a, rowD b, rowD c])] = some (.im (optD (taken a b c)), [.im (.tup [rowD a, rowD b, rowD c])]) := by
  refine FQ (fd := f_taken_of) rfl ⟨rfl, by decide, rfl⟩ rfl rfl rfl ?_
  generalize F n = Φ
  have e1 := opEq_row hb ha
  have nr : ∀ r : List X, (∀ x ∈ r, Tx x) → (rowD r).nice = true := fun r h => by
    have := row_ok h
    unfold D.ok at this
    simp only [Bool.and_eq_true] at this
    exact this.1
  have e2 : opIn (.im (rowD c)) (.im (.tup [rowD a, rowD b])) = some (decide (c = a ∨ c = b)) := by
    rw [opIn_tup (row_ok hc) (by simp [nices, nr a ha, nr b hb])]
    simp only [List.any_cons, List.any_nil, eqb_row, Bool.or_false]
    congr 1
    rw [Bool.eq_iff_iff]
    simp only [Bool.or_eq_true, decide_eq_true_eq]
    exact ⟨fun h => h.imp Eq.symm Eq.symm, fun h => h.imp Eq.symm Eq.symm⟩
  unfold f_taken_of
  rw [wp_cons]
  simp
  rw [wp_cons]
  refine wp_ite ?_
  simp [e1]
  unfold taken
  refine ⟨fun c => ?_, fun c => ?_⟩
  · rw [wp_cons]
    simp [c, optD]
  · rw [wp_cons]
    simp [c, e2]
    split <;> rfl
/-! ### merged -/
def clD (c : Cl X) : D := .tup [.int (c.1 : Int), .int (c.2.1 : Int), rowD c.2.2.1, rowD c.2.2.2]
def mst (a b c : List X) (L : List (Nat × Nat × Nat)) (i : Nat) : MSt X := (L.take i).foldl (mstep a b c) ⟨[], [], 0, 0, 0⟩
theorem mst_succ {a b c : List X} {L : List (Nat × Nat × Nat)} {i : Nat} {p : Nat × Nat × Nat} (h : L[i]? = some p) : mst a b c L (i + 1) = mstep a b c (mst a b c L i) p := by
  unfold mst
  rw [List.take_add_one, h]
  simp
def I_merged (a b c : List X) (L : List (Nat × Nat × Nat)) (i : Nat) (ρ : Rho) : Prop :=
  ∃ f cl h0 h1 h2 g6 g7 g8, mst a b c L i = ⟨f, cl, h0, h1, h2⟩ ∧ f.length ≤ 200 * i ∧ cl.length ≤ i ∧ (i < L.length → h0 ≤ a.length ∧ h1 ≤ b.length ∧ h2 ≤ c.length) ∧
      ρ = [some (.im (rowD a)), some (.im (rowD b)), some (.im (rowD c)), some (.ls (f.map fun x => .im (.str x))), some (.ls (cl.map fun x => .im (clD x))), some (.im (trD (h0, h1, h2))), g6, g7, g8]
theorem sl_mem {α : Type} {a : List α} {i j : Nat} : ∀ x ∈ sl a i j, x ∈ a := fun x hx => List.mem_of_mem_drop (List.mem_of_mem_take hx)
theorem sl_len {α : Type} {a : List α} {i j : Nat} : (sl a i j).length ≤ a.length := by
  unfold sl; simp; omega
/-- the places of the kept texts, and the ends: ascending, within the rows -/
structure Tri (a b c : List X) (L : List (Nat × Nat × Nat)) : Prop where
  len : L.length ≤ 41
  le : ∀ p ∈ L, p.1 ≤ a.length ∧ p.2.1 ≤ b.length ∧ p.2.2 ≤ c.length
  lt : ∀ i p, L[i]? = some p → i + 1 < L.length → p.1 < a.length ∧ p.2.1 < b.length ∧ p.2.2 < c.length
theorem w_merged_rows {a b c : List X} {L : List (Nat × Nat × Nat)} (hL : Tri a b c L) (ha : Rw a) (hb : Rw b) (hc : Rw c) (Φ : Fns)
    (H12 : Φ 12 [.im (rowD a), .im (rowD b), .im (rowD c)] = some (.im (.lst (L.map trD)), [.im (rowD a), .im (rowD b), .im (rowD c)]))
    (H13 : ∀ x y z : List X, (∀ t ∈ x, Tx t) → (∀ t ∈ y, Tx t) → (∀ t ∈ z, Tx t) → Φ 13 [.im (.tup [rowD x, rowD y, rowD z])] = some (.im (optD (taken x y z)), [.im (.tup [rowD x, rowD y, rowD z])])) :
    WP (f_merged_rows.body.runs Φ GG [] [some (.im (rowD a)), some (.im (rowD b)), some (.im (rowD c)), none, none, none, none, none, none]) (Ret [.im (rowD a), .im (rowD b), .im (rowD c)] fun t' us' => t' = .im (.tup [rowD (mst a b c L L.length).found, .tup ((mst a b c L L.length).cls.map clD)]) ∧ us' = [.im (rowD a), .im (rowD b), .im (rowD c)]) := by
  have la := ha.1
  have lb := hb.1
  have lc := hc.1
  have lL := hL.len
  unfold f_merged_rows
  rw [wp_cons]
  simp
  rw [wp_cons]
  refine wp_for (ds := L.map trD) (ρ1 := [some (.im (rowD a)), some (.im (rowD b)), some (.im (rowD c)), some (.ls []), some (.ls []), some (.im (.tup [.int 0, .int 0, .int 0])), none, none, none]) (I_merged a b c L) (by simp [H12]) ?_ ?_ ?_
  · exact ⟨[], [], 0, 0, 0, none, none, none, rfl, by simp, by simp, fun _ => ⟨Nat.zero_le _, Nat.zero_le _, Nat.zero_le _⟩, by simp [trD]⟩
  · intro i d ρ hd hI
    obtain ⟨f, cl, h0, h1, h2, g6, g7, g8, hst, hf, hcl, hh, rfl⟩ := hI
    have hi : i < L.length := by
      have := (List.getElem?_eq_some_iff.mp hd).1
      simpa using this
    obtain ⟨b0, b1, b2⟩ := hh hi
    obtain ⟨p, hp⟩ : ∃ p, L[i]? = some p := ⟨_, List.getElem?_eq_getElem hi⟩
    rw [List.getElem?_map, hp] at hd
    cases hd
    obtain ⟨p0, p1, p2⟩ := p
    have hle := hL.le _ (List.mem_of_getElem? hp)
    simp only at hle
    have hs := mst_succ (a := a) (b := b) (c := c) hp
    rw [hst] at hs
    have hlt := hL.lt i _ hp
    simp only at hlt
    have s0 := sl_row (a := a) (i := h0) (j := p0) (by omega) b0 hle.1
    have s1 := sl_row (a := b) (i := h1) (j := p1) (by omega) b1 hle.2.1
    have s2 := sl_row (a := c) (i := h2) (j := p2) (by omega) b2 hle.2.2
    have H := H13 (sl a h0 p0) (sl b h1 p1) (sl c h2 p2) (fun t ht => ha.2 t (sl_mem t ht)) (fun t ht => hb.2 t (sl_mem t ht)) (fun t ht => hc.2 t (sl_mem t ht))
    have z0 : ∀ x y z : Nat, opIxA (.im (trD (x, y, z))) (.im (.int 0)) = some (.im (.int (x : Int))) := fun _ _ _ => rfl
    have z1 : ∀ x y z : Nat, opIxA (.im (trD (x, y, z))) (.im (.int 1)) = some (.im (.int (y : Int))) := fun _ _ _ => rfl
    have z2 : ∀ x y z : Nat, opIxA (.im (trD (x, y, z))) (.im (.int 2)) = some (.im (.int (z : Int))) := fun _ _ _ => rfl
    have y1 : ∀ x y z : D, atI [x, y, z] 1 = some y := fun _ _ _ => rfl
    have y2 : ∀ x y z : D, atI [x, y, z] 2 = some z := fun _ _ _ => rfl
    have s3 : opSl (.im (rowD a)) (some (p0 : Int)) (some ((p0 : Int) + 1)) = some (.im (rowD (sl a p0 (p0 + 1)))) := by
      by_cases q : p0 < a.length
      · have := sl_row (a := a) (i := p0) (j := p0 + 1) (by omega) (by omega) (by omega)
        rw [Int.natCast_add] at this
        exact this
      · have e : p0 = a.length := by omega
        unfold rowD
        rw [opSl_tup (by simp; omega)]
        unfold cutA sl
        rw [HT.sIx_nat, show ((p0 : Int) + 1) = ((p0 + 1 : Nat) : Int) from rfl, HT.sIx_nat, List.length_map]
        rw [e]
        simp
    simp
    unfold L_merged_rows_1
    rw [wp_cons]
    simp [z0, z1, z2, s0, s1, s2]
    rw [wp_cons]
    simp [H]
    rw [wp_cons]
    refine wp_ite ?_
    have ls3 := sl_len (a := a) (i := p0) (j := p0 + 1)
    have hstep : mstep a b c ⟨f, cl, h0, h1, h2⟩ (p0, p1, p2) = (match taken (sl a h0 p0) (sl b h1 p1) (sl c h2 p2) with
      | some t => ⟨f ++ t ++ sl a p0 (p0 + 1), cl, p0 + 1, p1 + 1, p2 + 1⟩
      | none => ⟨f ++ sl a p0 (p0 + 1), cl ++ [(h0, p0, sl b h1 p1, sl c h2 p2)], p0 + 1, p1 + 1, p2 + 1⟩) := by
      unfold mstep
      cases taken (sl a h0 p0) (sl b h1 p1) (sl c h2 p2) <;> rfl
    rw [hstep] at hs
    have q1 : ∀ r : List X, T.seq? (.im (rowD r)) = some (r.map D.str) := fun _ => rfl
    have lcl : cl.length < 1000000 := by omega
    cases ht : taken (sl a h0 p0) (sl b h1 p1) (sl c h2 p2) with
    | none =>
      rw [ht] at hs
      simp only at hs
      have lf : f.length + (sl a p0 (p0 + 1)).length ≤ 1000000 := by omega
      simp [optD]
      rw [wp_cons]
      simp [z0, y1, y2, lcl]
      rw [wp_cons]
      simp [z0, s3, q1, lf]
      rw [wp_cons]
      simp [z0, z1, z2]
      exact ⟨_, _, _, _, _, some (.im (trD (p0, p1, p2))), some (.im (.tup [rowD (sl a h0 p0), rowD (sl b h1 p1), rowD (sl c h2 p2)])), some (.im .non), hs, by simp; omega, by simp; omega, fun z => by have := hlt z; omega, by simp [clD, trD, Function.comp_def]⟩
    | some t =>
      rw [ht] at hs
      simp only at hs
      have lt : t.length ≤ 40 := by
        unfold taken at ht
        split at ht
        · cases ht; exact Nat.le_trans sl_len lc
        · split at ht
          · cases ht; exact Nat.le_trans sl_len lb
          · cases ht
      have lf : f.length + t.length ≤ 1000000 := by omega
      have lf2 : f.length + t.length + (sl a p0 (p0 + 1)).length ≤ 1000000 := by omega
      have nn : isNon (rowD t) = false := rfl
      simp [optD, nn]
      rw [wp_cons]
      simp [q1, lf]
      rw [wp_cons]
      have lf3 : f.length + (t.length + (sl a p0 (p0 + 1)).length) ≤ 1000000 := by omega
      simp [z0, s3, q1, lf2, lf3]
      rw [wp_cons]
      simp [z0, z1, z2]
      exact ⟨_, _, _, _, _, some (.im (trD (p0, p1, p2))), some (.im (.tup [rowD (sl a h0 p0), rowD (sl b h1 p1), rowD (sl c h2 p2)])), some (.im (rowD t)), hs, by simp; omega, by omega, fun z => by have := hlt z; omega, by simp [clD, trD, Function.comp_def]⟩
  · intro ρ hI
    obtain ⟨f, cl, h0, h1, h2, g6, g7, g8, hst, hf, hcl, hh, rfl⟩ := hI
    rw [List.length_map] at hst
    rw [hst]
    simp
    rw [wp_cons]
    simp [rowD]
theorem lk_mem {ps : List (Nat × Nat)} {i : Nat} (h : (lk ps i).isSome = true) : (i, (lk ps i).getD 0) ∈ ps := by
  unfold lk at h ⊢
  cases e : ps.find? fun p => decide (p.1 = i) with
  | none => rw [e] at h; cases h
  | some p =>
    have h1 := List.find?_some e
    simp only [decide_eq_true_eq] at h1
    have h2 := List.mem_of_find?_eq_some e
    show (i, p.2) ∈ ps
    rw [← h1]; exact h2
theorem tri_of {a b c : List X} {ps qs : List (Nat × Nat)} (C1 : Chn a b ps) (C2 : Chn a c qs) (ha : a.length ≤ 40) : Tri a b c (TT a b c ps qs) := by
  have inn : ∀ p ∈ ((List.range a.length).filter (good ps qs)).map (trip ps qs), p.1 < a.length ∧ p.2.1 < b.length ∧ p.2.2 < c.length := by
    intro p hp
    obtain ⟨i, hi, rfl⟩ := List.mem_map.mp hp
    have hg := (List.mem_filter.mp hi).2
    unfold good at hg
    simp only [Bool.and_eq_true] at hg
    have m1 := C1.at_ _ (lk_mem hg.1)
    have m2 := C2.at_ _ (lk_mem hg.2)
    exact ⟨m1.1, m1.2.1, m2.2.1⟩
  have ll := List.length_filter_le (good ps qs) (List.range a.length)
  rw [List.length_range] at ll
  refine ⟨by simp [TT]; omega, fun p hp => ?_, fun i p hp hi => ?_⟩
  · rcases List.mem_append.mp hp with m | m
    · have := inn p m; omega
    · rw [List.mem_singleton.mp m]; simp
  · unfold TT at hp hi
    rw [List.getElem?_append_left (by simp at hi ⊢; omega)] at hp
    exact inn p (List.mem_of_getElem? hp)
theorem merged_rows_ok0 (n : Nat) {a b c : List X} {ps qs : List (Nat × Nat)} (C1 : Chn a b ps) (C2 : Chn a c qs) (ha : Rw a) (hb : Rw b) (hc : Rw c) :
    F (n + 4) 14 [.im (rowD a), .im (rowD b), .im (rowD c)] = some (.im (.tup [rowD (mst a b c (TT a b c ps qs) (TT a b c ps qs).length).found, .tup ((mst a b c (TT a b c ps qs) (TT a b c ps qs).length).cls.map clD)]), [.im (rowD a), .im (rowD b), .im (rowD c)]) :=
  FQ (n := n + 3) (fd := f_merged_rows) rfl ⟨rfl, by decide, rfl⟩ rfl rfl rfl (w_merged_rows (tri_of C1 C2 ha.1) ha hb hc _ (stable_ok n C1 C2 ha.1 hb.1 hc.1) fun x y z hx hy hz => taken_ok (n + 2) hx hy hz)
theorem merged_rows_ok (n : Nat) {a b c : List X} {ps qs : List (Nat × Nat)} (C1 : Chn a b ps) (C2 : Chn a c qs) (ha : Rw a) (hb : Rw b) (hc : Rw c) :
    F (n + 4) 14 [.im (rowD a), .im (rowD b), .im (rowD c)] = some (.im (.tup [rowD (mergeP a b c (((List.range a.length).filter (good ps qs)).map (trip ps qs))).1, .tup ((mergeP a b c (((List.range a.length).filter (good ps qs)).map (trip ps qs))).2.map clD)]), [.im (rowD a), .im (rowD b), .im (rowD c)]) := by
  have e : ∀ L : List (Nat × Nat × Nat), mst a b c L L.length = L.foldl (mstep a b c) ⟨[], [], 0, 0, 0⟩ := fun L => by
    unfold mst
    rw [List.take_of_length_le (Nat.le_refl _)]
  have := merged_rows_ok0 n C1 C2 ha hb hc
  rw [e] at this
  exact this
/-- the outcome -/
def resD (r : List X × List (Cl X)) : D := if r.2 = [] then .tup [.str MERGED, rowD r.1] else .tup [.str CLASH, .tup (r.2.map clD)]
def ClOk (c : Cl X) : Prop := (∀ y ∈ c.2.2.1, Tx y) ∧ (∀ y ∈ c.2.2.2, Tx y) ∧ c.1 ≤ 1000 ∧ c.2.1 ≤ 1000
theorem cl_nice {c : Cl X} (h : ClOk c) : (clD c).nice = true ∧ (clD c).dp ≤ 2 := by
  obtain ⟨h1, h2, h3, h4⟩ := h
  have i1 := int_ok (i := (c.1 : Int)) (by omega)
  have i2 := int_ok (i := (c.2.1 : Int)) (by omega)
  unfold clD rowD
  refine ⟨?_, ?_⟩
  · simp only [D.nice, nices, Bool.and_true] at i1 i2 ⊢
    rw [i1, i2, strs_nice h1, strs_nice h2]; rfl
  · simp only [D.dp, dps, strs_dps]; decide
theorem cls_ok {cl : List (Cl X)} (h : ∀ c ∈ cl, ClOk c) : (D.tup (cl.map clD)).nice = true ∧ (D.tup (cl.map clD)).dp ≤ 3 := by
  refine ⟨?_, ?_⟩
  · rw [D.nice, nices_iff]
    intro d hd
    obtain ⟨c, hc, rfl⟩ := List.mem_map.mp hd
    exact (cl_nice (h c hc)).1
  · rw [D.dp]
    have : dps (cl.map clD) ≤ 2 := by
      rw [dps_le]
      intro d hd
      obtain ⟨c, hc, rfl⟩ := List.mem_map.mp hd
      exact (cl_nice (h c hc)).2
    omega
theorem merged_ok (n : Nat) {a b c : List X} {ps qs : List (Nat × Nat)} (C1 : Chn a b ps) (C2 : Chn a c qs) (ha : Rw a) (hb : Rw b) (hc : Rw c)
    (hcl : ∀ k ∈ (mergeP a b c (((List.range a.length).filter (good ps qs)).map (trip ps qs))).2, ClOk k) :
    F (n + 5) 15 [.im (rowD a), .im (rowD b), .im (rowD c)] = some (.im (resD (mergeP a b c (((List.range a.length).filter (good ps qs)).map (trip ps qs)))), [.im (rowD a), .im (rowD b), .im (rowD c)]) := by
  refine FQ (fd := f_merged) rfl ⟨rfl, by decide, rfl⟩ rfl rfl rfl ?_
  have H := merged_rows_ok n C1 C2 ha hb hc
  generalize mergeP a b c (((List.range a.length).filter (good ps qs)).map (trip ps qs)) = r at H hcl
  have : ∀ Φ : Fns, Φ 2 [.im (rowD a)] = some (.im .non, [.im (rowD a)]) → Φ 2 [.im (rowD b)] = some (.im .non, [.im (rowD b)]) → Φ 2 [.im (rowD c)] = some (.im .non, [.im (rowD c)]) →
      Φ 14 [.im (rowD a), .im (rowD b), .im (rowD c)] = some (.im (.tup [rowD r.1, .tup (r.2.map clD)]), [.im (rowD a), .im (rowD b), .im (rowD c)]) →
      WP (f_merged.body.runs Φ GG [] [some (.im (rowD a)), some (.im (rowD b)), some (.im (rowD c)), none, none]) (Ret [.im (rowD a), .im (rowD b), .im (rowD c)] fun t' us' => t' = .im (resD r) ∧ us' = [.im (rowD a), .im (rowD b), .im (rowD c)]) := by
    intro Φ h1 h2 h3 h4
    have e : opEq (.tup (r.2.map clD)) (.tup []) = some (decide (r.2 = [])) := by
      have hk := cls_ok hcl
      rw [opEq_ok (by unfold D.ok; rw [hk.1]; simp; omega) rfl]
      cases r.2 with
      | nil => rfl
      | cons x xs => rfl
    unfold f_merged
    simp [wp_cons, h1, h2, h3, h4, e, resD]
  exact this _ (check_row_ok (n + 2) ha) (check_row_ok (n + 2) hb) (check_row_ok (n + 2) hc) H
end K34

set_option Elab.async false
set_option linter.all false
set_option maxRecDepth 2000
set_option maxHeartbeats 4000000
set_option exponentiation.threshold 3000
namespace K34
open PySem PySem.Spec PyProof.Rows L2 Em Mg
/-! ### draws -/
theorem mulB {x y : Int} {m n : Nat} (hx : x.natAbs < 2 ^ m) (hy : y.natAbs < 2 ^ n) : (x * y).natAbs < 2 ^ (m + n) := by
  rw [Int.natAbs_mul, Nat.pow_add]
  exact Nat.mul_lt_mul'' hx hy
def PotT (a b i : Int) : T := .ls [.im (.int a), .im (.int b), .im (.int i)]
/-- a pot that has been drawn from so often at most -/
def Pt (k : Nat) (p : T) : Prop := ∃ a b i : Int, p = PotT a b i ∧ 0 ≤ a ∧ a.natAbs < 2 ^ 1000 ∧ 0 ≤ b ∧ b < 2 ^ 61 ∧ 0 ≤ i ∧ i ≤ k
theorem Pt.up {k m : Nat} {p : T} (h : Pt k p) (hm : k ≤ m) : Pt m p := by
  obtain ⟨a, b, i, e, h1, h2, h3, h4, h5, h6⟩ := h
  exact ⟨a, b, i, e, h1, h2, h3, h4, h5, by omega⟩
theorem w_take {p : T} {k : Nat} {u : Int} (hp : Pt k p) (hk : k < 1000000000) (hu : 0 < u) (hu2 : u ≤ 1000000000) (Φ : Fns) :
    WP (f__law_take.body.runs Φ GG [0] [some p, some (.im (.int u)), none, none, none]) (Ret [p, .im (.int u)] fun t us => ∃ d p', t = .im (.int d) ∧ us = [p', .im (.int u)] ∧ 0 ≤ d ∧ d < u ∧ Pt (k + 1) p') := by
  obtain ⟨a, b, i, rfl, ha, ha2, hb, hb2, hi, hi2⟩ := hp
  have z0 : ∀ x y z : T, atI [x, y, z] 0 = some x := fun _ _ _ => rfl
  have z1 : ∀ x y z : T, atI [x, y, z] 1 = some y := fun _ _ _ => rfl
  have z2 : ∀ x y z : T, atI [x, y, z] 2 = some z := fun _ _ _ => rfl
  have x0 : ixN 3 0 = some 0 := rfl
  have x2 : ixN 3 2 = some 2 := rfl
  have bu : big u = true := big_of (lt_big (m := 30) (by omega) (by omega))
  unfold f__law_take PotT
  rw [wp_cons]
  refine wp_ite ?_
  simp [z0]
  refine ⟨fun h => ?_, fun h => ?_⟩
  · rw [wp_cons]
    simp [z0, hu]
    rw [wp_cons]
    simp [z0, hu, bu, x0]
    rw [wp_cons]
    simp
    refine ⟨Int.emod_nonneg _ (by omega), Int.emod_lt_of_pos _ hu, a / u, b, i, rfl, Int.ediv_nonneg ha (by omega), ?_, hb, hb2, hi, by omega⟩
    have : a / u ≤ a := Int.ediv_le_self _ ha
    have : 0 ≤ a / u := Int.ediv_nonneg ha (by omega)
    exact Nat.lt_of_le_of_lt (by omega) ha2
  · have j1 : (i + 1).natAbs < 2 ^ 31 := by omega
    have m1 : opMul (.im (.int 120557)) (.im (.int (i + 1))) = some (.im (.int (120557 * (i + 1)))) := opMul_of (lt_big (m := 17) (by decide) (by decide)) (lt_big j1 (by decide))
    have b1 : (120557 * (i + 1)).natAbs < 2 ^ (17 + 31) := mulB (by decide) j1
    have m2 : opMul (.im (.int (120557 * (i + 1)))) (.im (.int (i + 1))) = some (.im (.int (120557 * (i + 1) * (i + 1)))) := opMul_of (lt_big b1 (by decide)) (lt_big j1 (by decide))
    have b2 : (120557 * (i + 1) * (i + 1)).natAbs < 2 ^ (17 + 31 + 31) := mulB b1 j1
    rw [wp_cons]
    simp [z2, x2]
    rw [wp_cons]
    have e5 : ∃ q, (q = 2147483647 ∨ q = 2147483629 ∨ q = 2147483587 ∨ q = 2147483579 ∨ q = 2147483563) ∧ atI [D.int 2147483647, D.int 2147483629, D.int 2147483587, D.int 2147483579, D.int 2147483563] ((i + 1) % 5) = some (.int q) := by
      have h1 : 0 ≤ (i + 1) % 5 := Int.emod_nonneg _ (by omega)
      have h2 : (i + 1) % 5 < 5 := Int.emod_lt_of_pos _ (by omega)
      have : (i + 1) % 5 = 0 ∨ (i + 1) % 5 = 1 ∨ (i + 1) % 5 = 2 ∨ (i + 1) % 5 = 3 ∨ (i + 1) % 5 = 4 := by omega
      rcases this with e | e | e | e | e <;> rw [e]
      · exact ⟨_, .inl rfl, rfl⟩
      · exact ⟨_, .inr (.inl rfl), rfl⟩
      · exact ⟨_, .inr (.inr (.inl rfl)), rfl⟩
      · exact ⟨_, .inr (.inr (.inr (.inl rfl))), rfl⟩
      · exact ⟨_, .inr (.inr (.inr (.inr rfl))), rfl⟩
    obtain ⟨q, hq, e5⟩ := e5
    have hq1 : 0 < q := by omega
    have hq2 : q < 2 ^ 31 := by omega
    simp [z2, e5]
    rw [wp_cons]
    have b3 : (b + 120557 * (i + 1) * (i + 1) + 1253).natAbs < 2 ^ 2000 := Nat.lt_of_lt_of_le (m := 2 ^ 100) (by omega) (Nat.pow_le_pow_right (by omega) (by omega))
    simp [z1, z2, m1, m2, b3, hq1, -Nat.reducePow]
    rw [wp_cons]
    generalize hv : (b + 120557 * (i + 1) * (i + 1) + 1253) ^ 3 % q = v
    have v1 : 0 ≤ v := by rw [← hv]; exact Int.emod_nonneg _ (by omega)
    have v2 : v < q := by rw [← hv]; exact Int.emod_lt_of_pos _ hq1
    have c1 : 0 ≤ v % 10259 ∧ v % 10259 < 10259 := ⟨Int.emod_nonneg _ (by omega), Int.emod_lt_of_pos _ (by omega)⟩
    have m3 : opMul (.im (.int 122)) (.im (.int (i + 1))) = some (.im (.int (122 * (i + 1)))) := opMul_of (lt_big (m := 17) (by decide) (by decide)) (lt_big j1 (by decide))
    have b4 : (v % 10259 + 122 * (i + 1)).natAbs < 2 ^ 60 := by omega
    have b5 : v.natAbs < 2 ^ 31 := by omega
    have m4 : opMul (.im (.int v)) (.im (.int (v % 10259 + 122 * (i + 1)))) = some (.im (.int (v * (v % 10259 + 122 * (i + 1))))) := opMul_of (lt_big b5 (by decide)) (lt_big b4 (by decide))
    simp [z2, m3, m4]
    rw [wp_cons]
    generalize hw : v * (v % 10259 + 122 * (i + 1)) % 2305843009213693907 = w
    have b152 : big 152 = true := big_of (lt_big (m := 10) (by decide) (by decide))
    simp [hu, b152]
    exact ⟨Int.emod_nonneg _ (by omega), Int.emod_lt_of_pos _ hu, a, b, i + 1, rfl, ha, ha2, hb, hb2, by omega, by omega⟩
theorem take_ok (n : Nat) {p : T} {k : Nat} {u : Int} (hp : Pt k p) (hk : k < 1000000000) (hu : 0 < u) (hu2 : u ≤ 1000000000) :
    ∃ d p', F (n + 1) 17 [p, .im (.int u)] = some (.im (.int d), [p', .im (.int u)]) ∧ 0 ≤ d ∧ d < u ∧ Pt (k + 1) p' := by
  have hpin : ([p, T.im (.int u)] : List T).length = f__law_take.params ∧ f__law_take.params ≤ f__law_take.slots ∧ pinned f__law_take.pins 0 [p, .im (.int u)] = true := by
    obtain ⟨a, b, i, rfl, _⟩ := hp
    exact ⟨rfl, by decide, rfl⟩
  obtain ⟨t, us, e, d, p', rfl, rfl, h1, h2, h3⟩ := FP (n := n) (g := 17) (fd := f__law_take) rfl hpin rfl rfl rfl (w_take hp hk hu hu2 _)
  exact ⟨d, p', e, h1, h2, h3⟩
/-- an item of some, drawn -/
theorem of_ok (n : Nat) {p : T} {k : Nat} {d : D} {len : Nat} (hp : Pt k p) (hk : k < 1000000000) (hl : 0 < len) (hl2 : len ≤ 1000) (items : Nat → D) (h1 : opLen (.im d) = some (len : Int)) (h2 : ∀ j : Nat, j < len → opIxA (.im d) (.im (.int (j : Int))) = some (.im (items j))) :
    ∃ j p', j < len ∧ F (n + 2) 18 [p, .im d] = some (.im (items j), [p', .im d]) ∧ Pt (k + 1) p' := by
  have hpin : ([p, T.im d] : List T).length = f__law_of.params ∧ f__law_of.params ≤ f__law_of.slots ∧ pinned f__law_of.pins 0 [p, .im d] = true := by
    obtain ⟨a, b, i, rfl, _⟩ := hp
    exact ⟨rfl, by decide, rfl⟩
  obtain ⟨e, p', he, e1, e2, hp'⟩ := take_ok n hp hk (u := (len : Int)) (by omega) (by omega)
  obtain ⟨j, rfl⟩ : ∃ j : Nat, e = (j : Int) := ⟨e.toNat, by omega⟩
  refine ⟨j, p', by omega, ?_, hp'⟩
  refine FQ (fd := f__law_of) rfl hpin rfl rfl rfl ?_
  have : ∀ Φ : Fns, Φ 17 [p, .im (.int (len : Int))] = some (.im (.int (j : Int)), [p', .im (.int (len : Int))]) →
      WP (f__law_of.body.runs Φ GG [0] [some p, some (.im d)]) (Ret [p, .im d] fun t' us' => t' = .im (items j) ∧ us' = [p', .im d]) := by
    intro Φ h
    obtain ⟨a, b, i, rfl, _⟩ := hp
    unfold f__law_of
    unfold PotT at h ⊢
    rw [wp_cons]
    simp [h1, h, h2 j (by omega)]
  exact this _ he
/-! ### fresh texts -/
def ch (m : Nat) : Nat := SG.getD (m % 44) 0
/-- a text that tells its number -/
def Frs (m : Nat) (x : X) : Prop := Tx x ∧ ∃ body, x = body ++ [ch (m / 44), ch m]
theorem ch_mem (m : Nat) : ch m ∈ SG := by
  unfold ch
  have : m % 44 < 44 := Nat.mod_lt _ (by omega)
  have h : ∀ k < 44, SG.getD k 0 ∈ SG := by decide
  exact h _ this
theorem ch_inj {m k : Nat} (h : ch m = ch k) : m % 44 = k % 44 := by
  unfold ch at h
  have h1 : m % 44 < 44 := Nat.mod_lt _ (by omega)
  have h2 : k % 44 < 44 := Nat.mod_lt _ (by omega)
  have : ∀ a < 44, ∀ b < 44, SG.getD a 0 = SG.getD b 0 → a = b := by decide
  exact this _ h1 _ h2 h
theorem frs_inj {m k : Nat} {x : X} (h1 : Frs m x) (h2 : Frs k x) (hm : m < 1936) (hk : k < 1936) : m = k := by
  obtain ⟨_, b1, e1⟩ := h1
  obtain ⟨_, b2, e2⟩ := h2
  rw [e1] at e2
  have := List.append_inj_right' e2 rfl
  simp only [List.cons.injEq, and_true] at this
  have a1 := ch_inj this.1
  have a2 := ch_inj this.2
  omega
theorem evf_ref0 {Φ : Fns} {g : Nat} {f : Fx} {p p' t : T} {d : D} {k : Nat} {ρ : Rho} (hp : Pt k p) (hf : f.evf Φ GG (some p :: ρ) = some (.im d, some p :: ρ)) (h : Φ g [p, .im d] = some (t, [p', .im d])) :
    Fx.evf Φ GG (.call g (.ref 0 (.fx f .nil))) (some p :: ρ) = some (t, some p' :: ρ) := by
  obtain ⟨a, b, i, rfl, _⟩ := hp
  unfold PotT at h hf ⊢
  simp [hf, h]
theorem signs_ok (n : Nat) : F (n + 1) 20 [] = some (.im (.str SG), []) := by
  refine FQ (fd := f__law_signs) rfl ⟨rfl, by decide, rfl⟩ rfl rfl rfl ?_
  generalize F n = Φ
  unfold f__law_signs
  rw [wp_cons]
  simp [SG]
theorem join_one : ∀ cs : List Nat, joinN [] (cs.map fun c => [c]) = cs
  | [] => rfl
  | [c] => rfl
  | c :: e :: cs => by
    have := join_one (e :: cs)
    simp only [List.map_cons, joinN, List.nil_append, List.singleton_append] at this ⊢
    rw [this]
def I_fresh (k : Nat) (m : Int) (i : Nat) (us : List T) (ρ : Rho) : Prop := ∃ (p : T) (cs : List Nat), ρ = [some p, some (.im (.int m)), none, none] ∧ Pt (k + i) p ∧ us = cs.map (fun c => T.im (.str [c])) ∧ cs.length = i ∧ ∀ c ∈ cs, c ∈ SG
theorem w_fresh {p : T} {k m : Nat} (hp : Pt k p) (hk : k < 900000000) (hm : m < 1936) (Φ : Fns) (H20 : Φ 20 [] = some (.im (.str SG), []))
    (H18 : ∀ (p : T) (k : Nat) (d : D) (len : Nat) (items : Nat → D), Pt k p → k < 1000000000 → 0 < len → len ≤ 1000 → opLen (.im d) = some (len : Int) → (∀ j : Nat, j < len → opIxA (.im d) (.im (.int (j : Int))) = some (.im (items j))) → ∃ j p', j < len ∧ Φ 18 [p, .im d] = some (.im (items j), [p', .im d]) ∧ Pt (k + 1) p') :
    WP (f__law_fresh.body.runs Φ GG [0] [some p, some (.im (.int (m : Int))), none, none]) (Ret [p, .im (.int (m : Int))] fun t us => ∃ x p', t = .im (.str x) ∧ us = [p', .im (.int (m : Int))] ∧ Frs m x ∧ Pt (k + 99) p') := by
  obtain ⟨j0, p0, hj0, e0, hp0⟩ := H18 p k (.lst [.int 0, .int 1, .int 3, .int 98]) 4 (fun j => .int ([0, 1, 3, 98].getD j 0)) hp (by omega) (by omega) (by omega) rfl (by
    intro j hj
    have : j = 0 ∨ j = 1 ∨ j = 2 ∨ j = 3 := by omega
    rcases this with rfl | rfl | rfl | rfl <;> rfl)
  obtain ⟨L, hL, hL2⟩ : ∃ L : Nat, ([0, 1, 3, 98] : List Int).getD j0 0 = (L : Int) ∧ L ≤ 98 := by
    have : j0 = 0 ∨ j0 = 1 ∨ j0 = 2 ∨ j0 = 3 := by omega
    rcases this with rfl | rfl | rfl | rfl
    · exact ⟨0, rfl, by omega⟩
    · exact ⟨1, rfl, by omega⟩
    · exact ⟨3, rfl, by omega⟩
    · exact ⟨98, rfl, by omega⟩
  rw [hL] at e0
  have hS : ∀ j : Nat, j < 44 → opIxA (.im (.str SG)) (.im (.int (j : Int))) = some (.im (.str [SG.getD j 0])) := by
    intro j hj
    rw [opIxA_str (by decide), Em.atI_nat (by simpa [SG] using hj)]
    have : ∀ k < 44, SG[k]? = some (SG.getD k 0) := by decide
    rw [this j hj]
  have hc : ∃ (cs : List Nat) (p1 : T), Fx.evf Φ GG C__law_fresh_1 [some p, some (.im (.int (m : Int))), none, none] = some (.ls (cs.map fun c => T.im (.str [c])), [some p1, some (.im (.int (m : Int))), none, none]) ∧ Pt (k + 99) p1 ∧ cs.length ≤ 98 ∧ ∀ c ∈ cs, c ∈ SG := by
    unfold C__law_fresh_1
    obtain ⟨ts, ρ5, e, p1, cs, rfl, h2, rfl, h3, h4⟩ := comp_inv (Φ := Φ) (G := GG) (vs := [3]) (tg := .nm 3) (f := .ex (.fr (.call 18 (.ref 0 (.fx (.ex (.fr (.call 20 .nil))) .nil)))))
      (it := .rng1 (.fr (.call 18 (.ref 0 (.fx (.ex (.fr (.disp (.cons (.lit (.int 0)) (.cons (.lit (.int 1)) (.cons (.lit (.int 3)) (.cons (.lit (.int 98)) .nil))))))) .nil)))))
      (ρ := [some p, some (.im (.int (m : Int))), none, none]) (ρ1 := [some p0, some (.im (.int (m : Int))), none, none]) (ds := (List.range L).map fun (i : Nat) => D.int (i : Int)) (I_fresh (k + 1) m)
      (evi1 (i := (L : Int)) (by
        have := evf_ref0 (Φ := Φ) (f := .ex (.fr (.disp (.cons (.lit (.int 0)) (.cons (.lit (.int 1)) (.cons (.lit (.int 3)) (.cons (.lit (.int 98)) .nil))))))) (ρ := [some (.im (.int (m : Int))), none, none]) hp (by simp <;> rfl) e0
        simp only [ev_fr, this]
        simp) (rng2_to rfl (by omega))) (by simp) (by simp; omega) ⟨p0, [], by simp, by simpa using hp0, rfl, rfl, fun c hc => nomatch hc⟩ (by
        intro i d us ρ hd hI
        obtain ⟨p2, cs, rfl, h2, rfl, h3, h4⟩ := hI
        have hi : i < L := by
          have := (List.getElem?_eq_some_iff.mp hd).1
          simpa using this
        obtain ⟨j, p3, hj, e, hp3⟩ := H18 p2 _ (.str SG) 44 (fun j => .str [SG.getD j 0]) h2 (by omega) (by omega) (by omega) rfl hS
        obtain ⟨a2, b2, i2, rfl, h2'⟩ := h2
        unfold PotT at e ⊢
        simp [H20, e]
        refine ⟨p3, cs ++ [SG.getD j 0], by simp, by rw [← Nat.add_assoc]; exact hp3, by simp, by simp [h3], fun c hc => ?_⟩
        rcases List.mem_append.mp hc with z | z
        · exact h4 c z
        · rw [List.mem_singleton.mp z]
          have : ∀ k < 44, SG.getD k 0 ∈ SG := by decide
          exact this j hj)
    rw [List.length_map, List.length_range] at h2 h3
    refine ⟨cs, p1, ?_, h2.up (by omega), by omega, h4⟩
    rw [e]
    simp
  obtain ⟨cs, p1, hc, hp1, hl, hcs⟩ := hc
  have hj : opJoin (.str []) (.im (.lst (cs.map fun c => D.str [c]))) = some (.im (.str cs)) := by
    have hs : D.strs (cs.map fun c => D.str [c]) = some (cs.map fun c => [c]) := strs_map
    unfold opJoin
    simp only [seq_lst, hs, List.length_nil, Nat.mul_zero, Nat.add_zero]
    rw [if_pos, join_one]
    simp [Function.comp_def, List.map_const']
    omega
  have d1 : big 44 = true := big_of (lt_big (m := 10) (by decide) (by decide))
  have q1 : ((m : Int) / 44 % 44) = ((m / 44 % 44 : Nat) : Int) := by omega
  have q2 : ((m : Int) % 44) = ((m % 44 : Nat) : Int) := by omega
  have i1 := hS (m / 44 % 44) (Nat.mod_lt _ (by omega))
  have i2 := hS (m % 44) (Nat.mod_lt _ (by omega))
  rw [← q1] at i1
  rw [← q2] at i2
  obtain ⟨a, b, i, rfl, hp1'⟩ := hp1
  have hp1 : Pt (k + 99) (PotT a b i) := ⟨a, b, i, rfl, hp1'⟩
  obtain ⟨a0, b0, i0, rfl, _⟩ := hp
  unfold PotT at hc ⊢
  unfold f__law_fresh
  rw [wp_cons]
  simp [hc, Function.comp_def, hj]
  rw [wp_cons]
  have l1 : cs.length + 1 ≤ 1000000 := by omega
  have l2 : cs.length + 1 + 1 ≤ 1000000 := by omega
  simp [H20, d1, i1, i2, l1, l2]
  have c1 : SG[m / 44 % 44]?.getD 0 = ch (m / 44) := rfl
  have c2 : SG[m % 44]?.getD 0 = ch m := rfl
  rw [c1, c2]
  refine ⟨⟨⟨by simp; omega, fun c hc => ?_⟩, cs, rfl⟩, hp1⟩
  rcases List.mem_append.mp hc with z | z
  · exact hcs c z
  · simp at z
    rcases z with z | z <;> rw [z] <;> exact ch_mem _
theorem fresh_ok (n : Nat) {p : T} {k m : Nat} (hp : Pt k p) (hk : k < 900000000) (hm : m < 1936) :
    ∃ x p', F (n + 3) 21 [p, .im (.int (m : Int))] = some (.im (.str x), [p', .im (.int (m : Int))]) ∧ Frs m x ∧ Pt (k + 99) p' := by
  have hpin : ([p, T.im (.int (m : Int))] : List T).length = f__law_fresh.params ∧ f__law_fresh.params ≤ f__law_fresh.slots ∧ pinned f__law_fresh.pins 0 [p, .im (.int (m : Int))] = true := by
    obtain ⟨a, b, i, rfl, _⟩ := hp
    exact ⟨rfl, by decide, rfl⟩
  obtain ⟨t, us, e, x, p', rfl, rfl, h1, h2⟩ := FP (n := n + 2) (g := 21) (fd := f__law_fresh) rfl hpin rfl rfl rfl (w_fresh hp hk hm _ (signs_ok (n + 1)) fun p k d len items hp hk hl hl2 h1 h2 => of_ok n hp hk hl hl2 items h1 h2)
  exact ⟨x, p', e, h1, h2⟩
end K34

set_option Elab.async false
set_option linter.all false
set_option maxRecDepth 2000
set_option maxHeartbeats 4000000
set_option exponentiation.threshold 3000
namespace K34
open PySem PySem.Spec PyProof.Rows L2 Em Mg
abbrev EdE := List (List X × Bool)
def edD (e : List X × Bool) : D := .tup [rowL e.1, .bl e.2]
def lenE : Nat → EdE → Nat
  | _, [] => 0
  | 0, x :: E => x.1.length + lenE 0 E
  | n + 1, x :: E => x.1.length + nk x.2 + lenE n E
theorem lenE_snoc (x : List X × Bool) : ∀ (n : Nat) (E : EdE), lenE n (E ++ [x]) = lenE n E + x.1.length + (if E.length < n then nk x.2 else 0)
  | 0, [] => by simp [lenE]
  | n + 1, [] => by simp [lenE]
  | 0, y :: E => by
    have := lenE_snoc x 0 E
    simp only [List.cons_append, lenE]
    rw [this]; simp; omega
  | n + 1, y :: E => by
    have := lenE_snoc x n E
    simp only [List.cons_append, lenE]
    rw [this]; simp; omega
/-- fresh texts told by numbers up to c -/
def EdOk (c : Nat) (E : EdE) : Prop := ∀ e ∈ E, e.1.length ≤ 1 ∧ ∀ x ∈ e.1, ∃ m, m ≤ c ∧ Frs m x
theorem EdOk.up {c c' : Nat} {E : EdE} (h : EdOk c E) (hc : c ≤ c') : EdOk c' E := fun e he => ⟨(h e he).1, fun x hx => by
  obtain ⟨m, hm, hf⟩ := (h e he).2 x hx
  exact ⟨m, by omega, hf⟩⟩
def CntT (c : Nat) : T := .ls [.im (.int (c : Int))]
def I_edit (k c0 : Nat) (base : List X) (i : Nat) (ρ : Rho) : Prop :=
  ∃ (E : EdE) (p : T) (c many : Nat) (g5 g6 g7 g8 : Option T), E.length = i ∧ Pt (k + 100 * i) p ∧ c ≤ c0 + i ∧ c0 ≤ c ∧ EdOk c E ∧ many = lenE base.length E + (base.length - E.length) ∧ many ≤ 40 ∧
    ρ = [some p, some (.im (rowL base)), some (CntT c), some (.ls (E.map fun e => .im (edD e))), some (.im (.int (many : Int))), g5, g6, g7, g8]
theorem w_edit {p : T} {k c : Nat} {base : List X} (hp : Pt k p) (hk : k < 800000000) (hb : base.length ≤ 40) (hc : c ≤ 900) (Φ : Fns)
    (H17 : ∀ (p : T) (k : Nat) (u : Int), Pt k p → k < 1000000000 → 0 < u → u ≤ 1000000000 → ∃ d p', Φ 17 [p, .im (.int u)] = some (.im (.int d), [p', .im (.int u)]) ∧ 0 ≤ d ∧ d < u ∧ Pt (k + 1) p')
    (H21 : ∀ (p : T) (k m : Nat), Pt k p → k < 900000000 → m < 1936 → ∃ x p', Φ 21 [p, .im (.int (m : Int))] = some (.im (.str x), [p', .im (.int (m : Int))]) ∧ Frs m x ∧ Pt (k + 99) p') :
    WP (f__law_edit.body.runs Φ GG [0, 2] [some p, some (.im (rowL base)), some (CntT c), none, none, none, none, none, none]) (Ret [p, .im (rowL base), CntT c] fun t us => ∃ (E : EdE) (p' : T) (c' : Nat), t = .im (.lst (E.map edD)) ∧ us = [p', .im (rowL base), CntT c'] ∧ E.length = base.length + 1 ∧ lenE base.length E ≤ 40 ∧ EdOk c' E ∧ Pt (k + 4100) p' ∧ c ≤ c' ∧ c' ≤ c + 41) := by
  have hlen : opLen (.im (rowL base)) = some (base.length : Int) := by unfold rowL; simp
  unfold f__law_edit
  rw [wp_cons]
  simp [hlen]
  rw [wp_cons]
  refine wp_for (ds := (List.range (base.length + 1)).map fun (i : Nat) => D.int (i : Int)) (ρ1 := [some p, some (.im (rowL base)), some (CntT c), some (.ls []), some (.im (.int (base.length : Int))), none, none, none, none]) (I_edit k c base) ?_ ?_ ?_ ?_
  · exact evi1 (by simp [hlen] <;> rfl) (rng2_to (by simp) (by omega))
  · exact ⟨[], p, c, base.length, none, none, none, none, rfl, by simpa using hp, by omega, by omega, (fun e he => nomatch he), by simp [lenE], hb, by simp⟩
  · intro i d ρ hd hI
    obtain ⟨E, p1, c1, many, g5, g6, g7, g8, hE, hp1, hc1, hc0, hok, hm, hm40, rfl⟩ := hI
    have hi : i < base.length + 1 := by
      have := (List.getElem?_eq_some_iff.mp hd).1
      simpa using this
    simp [hi] at hd
    subst hd
    obtain ⟨w, p2, e17, hw0, hw8, hp2⟩ := H17 p1 _ 8 hp1 (by omega) (by omega) (by omega)
    have hp2' := hp2
    obtain ⟨a1, b1, i1, rfl, -⟩ := hp1
    obtain ⟨a2, b2, i2, rfl, -⟩ := hp2
    have x0 : ∀ x : T, atI [x] 0 = some x := fun _ => rfl
    have y0 : ixN 1 0 = some 0 := rfl
    have hin : opIn (.im (.int w)) (.im (.tup [.int 1, .int 2])) = some (decide (w = 1 ∨ w = 2)) := by
      rw [opIn_tup (by unfold D.ok; rw [int_ok (by omega)]; rfl) rfl]
      simp only [List.any_cons, List.any_nil, D.eqb, Bool.or_false]
      congr 1
      rw [Bool.eq_iff_iff]
      simp
      omega
    unfold PotT at e17 ⊢
    simp
    unfold L__law_edit_1
    rw [wp_cons]
    simp [e17]
    rw [wp_cons]
    refine wp_ite ?_
    simp
    have lE : E.length < 1000000 := by omega
    -- what stands behind the choice
    have tail : ∀ (p3 : T) (f : List X) (c3 many3 : Nat) (g5 : Option T), Pt (k + 100 * (i + 1)) p3 → c3 ≤ c + (i + 1) → c1 ≤ c3 → f.length ≤ 1 → (∀ x ∈ f, ∃ m, m ≤ c3 ∧ Frs m x) → many3 = many + f.length → many3 ≤ 40 → ∀ K : Fl → Rho → Prop, (∀ ρ, I_edit k c base (i + 1) ρ → K .nx ρ) →
        WP (Sms.runs Φ GG [0, 2] (.cons (.asg 8 (.ex (.op .nin (.cons (.var 6) (.cons (.op .tup (.cons (.lit (.int 1)) (.cons (.lit (.int 2)) .nil))) .nil))))) (.cons (.asg 4 (.ex (.op .sub (.cons (.var 4) (.cons (.op .int (.cons (.and_ (.cons (.op .lt (.cons (.var 5) (.cons (.op .len (.cons (.var 1) .nil)) .nil))) (.cons (.not_ (.var 8)) .nil))) .nil)) .nil))))) (.cons (.app 3 .nil (.ex (.op .tup (.cons (.var 7) (.cons (.var 8) .nil))))) .nil)))
          [some p3, some (.im (rowL base)), some (CntT c3), some (.ls (E.map fun e => .im (edD e))), some (.im (.int (many3 : Int))), some (.im (.int (i : Int))), some (.im (.int w)), some (.im (rowL f)), g8]) K := by
      intro p3 f c3 many3 g5 h1 h2 h3 h4 h5 h6 h7 K hK
      rw [wp_cons]
      simp [hin]
      rw [wp_cons]
      simp [hlen]
      rw [wp_cons]
      simp [lE]
      have hbb : (!decide (w = 1) && !decide (w = 2)) = decide (¬ (w = 1 ∨ w = 2)) := by
        rw [Bool.eq_iff_iff]; simp
      rw [hbb]
      have hcast : ((many3 : Int) - if i < base.length ∧ (w = 1 ∨ w = 2) then 1 else 0) = ((many3 - (if i < base.length ∧ (w = 1 ∨ w = 2) then 1 else 0) : Nat) : Int) := by
        split <;> omega
      rw [hcast]
      have hsn := lenE_snoc (f, decide (¬ (w = 1 ∨ w = 2))) base.length E
      refine hK _ ⟨E ++ [(f, decide (¬ (w = 1 ∨ w = 2)))], p3, c3, many3 - (if i < base.length ∧ (w = 1 ∨ w = 2) then 1 else 0), some (.im (.int (i : Int))), some (.im (.int w)), some (.im (rowL f)), some (.im (.bl (decide (¬ (w = 1 ∨ w = 2))))), by simp [hE], h1, h2, by omega, ?_, ?_, Nat.le_trans (Nat.sub_le _ _) h7, by simp [edD]⟩
      · intro e he
        rcases List.mem_append.mp he with z | z
        · exact (hok.up h3) e z
        · rw [List.mem_singleton.mp z]; exact ⟨h4, h5⟩
      · rw [hsn, List.length_append, List.length_singleton]
        rw [hE] at hm ⊢
        by_cases r : i < base.length <;> by_cases q : w = 1 ∨ w = 2 <;> simp [r, q, nk] <;> omega
    refine ⟨fun h1 h2 => ?_, fun h1 => ?_⟩
    · obtain ⟨x, p3, e21, hx, hp3⟩ := H21 _ _ (c1 + 1) hp2' (by omega) (by omega)
      have hp3' := hp3
      obtain ⟨a3, b3, i3, rfl, -⟩ := hp3
      unfold PotT at e21
      rw [Int.natCast_add] at e21
      simp at e21
      rw [wp_cons]
      unfold CntT
      simp [x0, y0]
      rw [wp_cons]
      simp [x0, e21]
      rw [wp_cons]
      simp
      have := tail (PotT a3 b3 i3) [x] (c1 + 1) (many + 1) none (hp3'.up (by omega)) (by omega) (by omega) (by simp) (fun y hy => by rw [List.mem_singleton.mp hy]; exact ⟨c1 + 1, by omega, hx⟩) rfl (by omega)
      unfold CntT PotT at this
      simp [rowL] at this
      exact this _ (fun ρ h => h)
    · have := tail (PotT a2 b2 i2) [] c1 many none (hp2'.up (by omega)) (by omega) (by omega) (by simp) (fun y hy => nomatch hy) rfl (by omega)
      unfold PotT at this
      simp [rowL] at this
      exact this _ (fun ρ h => h)
  · intro ρ hI
    obtain ⟨E, p1, c1, many, g5, g6, g7, g8, hE, hp1, hc1, hc0, hok, hm, hm40, rfl⟩ := hI
    rw [List.length_map, List.length_range] at hE hp1 hc1
    have hp1' := hp1
    obtain ⟨a1, b1, i1, rfl, -⟩ := hp1
    obtain ⟨a0, b0, i0, rfl, -⟩ := hp
    simp
    rw [wp_cons]
    unfold CntT PotT
    simp
    exact ⟨E, by simp [Function.comp_def], PotT a1 b1 i1, c1, by simp [PotT], hE, by omega, hok, hp1'.up (by omega), hc0, by omega⟩
theorem edit_ok (n : Nat) {p : T} {k c : Nat} {base : List X} (hp : Pt k p) (hk : k < 800000000) (hb : base.length ≤ 40) (hc : c ≤ 900) :
    ∃ (E : EdE) (p' : T) (c' : Nat), F (n + 4) 22 [p, .im (rowL base), CntT c] = some (.im (.lst (E.map edD)), [p', .im (rowL base), CntT c']) ∧ E.length = base.length + 1 ∧ lenE base.length E ≤ 40 ∧ EdOk c' E ∧ Pt (k + 4100) p' ∧ c ≤ c' ∧ c' ≤ c + 41 := by
  have hpin : ([p, .im (rowL base), CntT c] : List T).length = f__law_edit.params ∧ f__law_edit.params ≤ f__law_edit.slots ∧ pinned f__law_edit.pins 0 [p, .im (rowL base), CntT c] = true := by
    obtain ⟨a, b, i, rfl, _⟩ := hp
    exact ⟨rfl, by decide, rfl⟩
  obtain ⟨t, us, e, E, p', c', rfl, rfl, h⟩ := FP (n := n + 3) (g := 22) (fd := f__law_edit) rfl hpin rfl rfl rfl (w_edit hp hk hb hc _ (fun p k u hp hk hu hu2 => take_ok (n + 2) hp hk hu hu2) fun p k m hp hk hm => fresh_ok n hp hk hm)
  exact ⟨E, p', c', e, h⟩
end K34

set_option Elab.async false
set_option linter.all false
set_option maxRecDepth 2000
set_option maxHeartbeats 4000000
namespace K34
open PySem PySem.Spec PyProof.Rows L2 Em Mg
def doneE : List X → EdE → List X
  | _, [] => []
  | [], x :: E => x.1 ++ doneE [] E
  | b :: bs, x :: E => x.1 ++ ((if x.2 then [b] else []) ++ doneE bs E)
def its : List X → EdE → List (It X)
  | b :: bs, x :: E => ⟨b, x.1, x.2⟩ :: its bs E
  | _, _ => []
def fin : List X → EdE → List X
  | _, [] => []
  | [], x :: _ => x.1
  | _ :: bs, _ :: E => fin bs E
theorem doneE_row : ∀ (base : List X) (E : EdE), E.length = base.length + 1 → doneE base E = row (its base E) (fin base E)
  | [], [x], _ => by simp [doneE, its, fin, row]
  | b :: bs, x :: E, h => by
    have := doneE_row bs E (by simpa using h)
    simp [doneE, its, fin, row, this]
theorem its_bas : ∀ (base : List X) (E : EdE), E.length = base.length + 1 → bas (its base E) = base
  | [], [x], _ => rfl
  | b :: bs, x :: E, h => by
    have := its_bas bs E (by simpa using h)
    simp only [bas] at this
    simp [its, bas, this]
theorem its_len : ∀ (base : List X) (E : EdE), E.length = base.length + 1 → (its base E).length = base.length
  | [], [x], _ => rfl
  | b :: bs, x :: E, h => by
    have := its_len bs E (by simpa using h)
    simp [its, this]
theorem doneE_len : ∀ (base : List X) (E : EdE), (doneE base E).length = lenE base.length E
  | _, [] => by simp [doneE, lenE]
  | [], x :: E => by
    have := doneE_len [] E
    simp [doneE, lenE] at this ⊢; exact this
  | b :: bs, x :: E => by
    have := doneE_len bs E
    simp only [doneE, List.length_append, List.length_cons, lenE, this]
    unfold nk
    cases x.2 <;> simp <;> omega
theorem sl_nil {α : Type} {i j : Nat} : sl ([] : List α) i j = [] := by unfold sl; simp
theorem sl_cons {α : Type} {b : α} {bs : List α} {i j : Nat} : sl (b :: bs) (i + 1) (j + 1) = sl bs i j := by
  unfold sl
  simp
theorem doneE_snoc (x : List X × Bool) : ∀ (base : List X) (E : EdE), doneE base (E ++ [x]) = doneE base E ++ x.1 ++ (if x.2 then sl base E.length (E.length + 1) else [])
  | [], [] => by simp [doneE, sl_nil]
  | b :: bs, [] => by
    simp [doneE, sl]
  | [], y :: E => by
    have := doneE_snoc x [] E
    simp only [List.cons_append, doneE, this, sl_nil]
    simp
  | b :: bs, y :: E => by
    have := doneE_snoc x bs E
    simp only [List.cons_append, doneE, this, List.length_cons, sl_cons]
    simp
theorem its_get : ∀ (base : List X) (E : EdE) (i : Nat) (b : X) (x : List X × Bool), base[i]? = some b → E[i]? = some x → (its base E)[i]? = some ⟨b, x.1, x.2⟩
  | [], _, _, _, _, h, _ => by simp at h
  | _ :: _, [], _, _, _, _, h => by simp at h
  | b :: bs, y :: E, 0, b', x, h, h2 => by
    simp at h h2
    subst h h2
    rfl
  | b :: bs, y :: E, i + 1, b', x, h, h2 => by
    simp only [its, List.getElem?_cons_succ] at h h2 ⊢
    exact its_get bs E i b' x h h2
theorem fin_get : ∀ (base : List X) (E : EdE) (x : List X × Bool), E[base.length]? = some x → fin base E = x.1
  | _, [], _, h => by simp at h
  | [], y :: E, x, h => by
    simp at h
    subst h; rfl
  | b :: bs, y :: E, x, h => by
    simp only [List.length_cons, List.getElem?_cons_succ] at h
    exact fin_get bs E x h
theorem its_ind {P : List X → X → Prop} : ∀ (base : List X) (E : EdE), ∀ y ∈ its base E, y.b ∈ base ∧ ∃ e ∈ E, y.f = e.1 ∧ y.k = e.2
  | [], _, y, h => by simp [its] at h
  | _ :: _, [], y, h => by simp [its] at h
  | b :: bs, x :: E, y, h => by
    simp only [its] at h
    rcases List.mem_cons.mp h with e | m
    · rw [e]; exact ⟨List.mem_cons_self, x, List.mem_cons_self, rfl, rfl⟩
    · obtain ⟨h1, e, h2, h3⟩ := its_ind (P := P) bs E y m
      exact ⟨List.mem_cons_of_mem _ h1, e, List.mem_cons_of_mem _ h2, h3⟩
theorem enumD_get : ∀ (ds : List D) (n i : Nat) (d : D), ds[i]? = some d → (enumD n ds)[i]? = some (.tup [.int ((n + i : Nat) : Int), d])
  | [], _, _, _, h => by simp at h
  | x :: ds, n, 0, d, h => by
    simp at h; subst h; rfl
  | x :: ds, n, i + 1, d, h => by
    simp only [List.getElem?_cons_succ] at h
    have := enumD_get ds (n + 1) i d h
    simp only [enumD, List.getElem?_cons_succ, this]
    congr 5
    omega
theorem enumD_len : ∀ (ds : List D) (n : Nat), (enumD n ds).length = ds.length
  | [], _ => rfl
  | x :: ds, n => by simp [enumD, enumD_len ds (n + 1)]
theorem slL1 {a : List X} {i : Nat} (h : a.length ≤ 1000) (hi : i ≤ a.length) : opSl (.im (rowL a)) (some (i : Int)) (some ((i : Int) + 1)) = some (.im (rowL (sl a i (i + 1)))) := by
  unfold rowL
  rw [opSl_lst (by simp; omega)]
  unfold cutA sl
  rw [HT.sIx_nat, show ((i : Int) + 1) = ((i + 1 : Nat) : Int) from rfl, HT.sIx_nat, List.length_map]
  rw [Nat.min_eq_left hi]
  by_cases q : i < a.length
  · rw [Nat.min_eq_left (by omega)]; simp
  · have e : i = a.length := by omega
    rw [Nat.min_eq_right (by omega), e]; simp
theorem add_rowL {a b : List X} (h : a.length + b.length ≤ 1000) : opAdd (.im (rowL a)) (.im (rowL b)) = some (.im (rowL (a ++ b))) := by
  unfold rowL
  rw [opAdd_lst (by simp; omega)]
  simp
theorem opLen_rowL {a : List X} : opLen (.im (rowL a)) = some (a.length : Int) := by unfold rowL; simp
def I_done (base : List X) (E : EdE) (i : Nat) (ρ : Rho) : Prop := ∃ g3 g4 g5, ρ = [some (.im (rowL base)), some (.im (.lst (E.map edD))), some (.im (rowL (doneE base (E.take i)))), g3, g4, g5]
theorem done_ok (n : Nat) {base : List X} {E : EdE} (hE : E.length = base.length + 1) (hb : base.length ≤ 40) (hl : ∀ e ∈ E, e.1.length ≤ 1) :
    F (n + 1) 23 [.im (rowL base), .im (.lst (E.map edD))] = some (.im (rowL (doneE base E)), [.im (rowL base), .im (.lst (E.map edD))]) := by
  refine FQ (fd := f__law_done) rfl ⟨rfl, by decide, rfl⟩ rfl rfl rfl ?_
  generalize F n = Φ
  unfold f__law_done
  rw [wp_cons]
  simp
  rw [wp_cons]
  refine wp_for (ds := enumD 0 (E.map edD)) (ρ1 := [some (.im (rowL base)), some (.im (.lst (E.map edD))), some (.im (.lst [])), none, none, none]) (I_done base E) (by simp) ?_ ?_ ?_
  · exact ⟨none, none, none, by simp [doneE, rowL]⟩
  · intro i d ρ hd hI
    obtain ⟨g3, g4, g5, rfl⟩ := hI
    have hi : i < E.length := by
      have := (List.getElem?_eq_some_iff.mp hd).1
      rw [enumD_len] at this
      simpa using this
    obtain ⟨x, hx⟩ : ∃ x, E[i]? = some x := ⟨_, List.getElem?_eq_getElem hi⟩
    have := enumD_get (E.map edD) 0 i (edD x) (by rw [List.getElem?_map, hx]; rfl)
    rw [this, Nat.zero_add] at hd
    cases hd
    have hxl := hl x (List.mem_of_getElem? hx)
    have htk : E.take (i + 1) = E.take i ++ [x] := by rw [List.take_add_one, hx]; rfl
    have hlt : (E.take i).length = i := by rw [List.length_take]; omega
    have hsn := doneE_snoc x base (E.take i)
    rw [hlt, ← htk] at hsn
    have hdl : (doneE base (E.take i)).length ≤ 2 * i := by
      rw [doneE_len]
      have : ∀ (n : Nat) (E : EdE), (∀ e ∈ E, e.1.length ≤ 1) → lenE n E ≤ 2 * E.length := by
        intro n E
        induction E generalizing n with
        | nil => intro _; simp [lenE]
        | cons y E ih =>
          intro h
          have h1 := h y List.mem_cons_self
          have nk1 : nk y.2 ≤ 1 := by unfold nk; cases y.2 <;> simp
          cases n with
          | zero =>
            have := ih 0 fun e he => h e (List.mem_cons_of_mem _ he)
            simp only [lenE, List.length_cons]; omega
          | succ n =>
            have := ih n fun e he => h e (List.mem_cons_of_mem _ he)
            simp only [lenE, List.length_cons]; omega
      have := this base.length (E.take i) fun e he => hl e (List.mem_of_mem_take he)
      rw [hlt] at this
      exact this
    have a1 := add_rowL (a := doneE base (E.take i)) (b := x.1) (by omega)
    have a2 := slL1 (a := base) (i := i) (by omega) (by omega)
    have sll := sl_len (a := base) (i := i) (j := i + 1)
    have a3 := add_rowL (a := doneE base (E.take i) ++ x.1) (b := sl base i (i + 1)) (by rw [List.length_append]; omega)
    have a4 := add_rowL (a := doneE base (E.take i) ++ x.1) (b := []) (by rw [List.length_append]; simp; omega)
    have a5 : D.lst [] = rowL [] := rfl
    simp [show edD x = D.tup [rowL x.1, D.bl x.2] from rfl]
    unfold L__law_done_1
    rw [wp_cons]
    cases hk : x.2 with
    | true =>
      rw [hk] at hsn
      simp [a1, a2, a3]
      exact ⟨some (.im (.int (i : Int))), some (.im (rowL x.1)), some (.im (.bl true)), by rw [hsn]; simp⟩
    | false =>
      rw [hk] at hsn
      simp [a1, a5, a4]
      exact ⟨some (.im (.int (i : Int))), some (.im (rowL x.1)), some (.im (.bl false)), by rw [hsn]; simp⟩
  · intro ρ hI
    obtain ⟨g3, g4, g5, rfl⟩ := hI
    rw [enumD_len, List.length_map, List.take_of_length_le (Nat.le_refl _)]
    simp
    rw [wp_cons]
    simp
/-! ### the law's blocks -/
def NB (i : Nat) : Bk X → Prop
  | .keep n => n ≤ i
  | .turn o f => (∀ x ∈ o, Tx x) ∧ (∀ x ∈ f, Tx x)
theorem bk_nice {i : Nat} {b : Bk X} (h : NB i b) (hi : i ≤ 1000) : (bkD b).nice = true ∧ (bkD b).dp ≤ 2 := by
  cases b with
  | keep n =>
    have h : n ≤ i := h
    have i1 := int_ok (i := (n : Int)) (by omega)
    unfold bkD
    refine ⟨?_, by simp [D.dp, dps]⟩
    simp only [D.nice, nices, Bool.and_true] at i1 ⊢
    rw [i1]; rfl
  | turn o f =>
    unfold bkD rowD
    refine ⟨?_, ?_⟩
    · simp only [D.nice, nices, Bool.and_true]
      rw [strs_nice h.1, strs_nice h.2]; rfl
    · simp only [D.dp, dps, strs_dps]; decide
theorem bks_nice {i : Nat} {bs : List (Bk X)} (h : ∀ b ∈ bs, NB i b) (hi : i ≤ 1000) : nices (bs.map bkD) = true ∧ dps (bs.map bkD) ≤ 2 := by
  refine ⟨?_, ?_⟩
  · rw [nices_iff]
    intro d hd
    obtain ⟨b, hb, rfl⟩ := List.mem_map.mp hd
    exact (bk_nice (h b hb) hi).1
  · rw [dps_le]
    intro d hd
    obtain ⟨b, hb, rfl⟩ := List.mem_map.mp hd
    exact (bk_nice (h b hb) hi).2
theorem opEq_bks {i : Nat} {bs : List (Bk X)} (h : ∀ b ∈ bs, NB i b) (hi : i ≤ 1000) : opEq (.lst (bs.map bkD)) (.lst []) = some (decide (bs = [])) := by
  obtain ⟨h1, h2⟩ := bks_nice h hi
  rw [opEq_ok (by unfold D.ok; rw [D.nice, h1, D.dp]; simp; omega) rfl]
  cases bs with
  | nil => rfl
  | cons x xs => rfl
def I_lblocks (base : List X) (E : EdE) (i : Nat) (ρ : Rho) : Prop :=
  ∃ (f : List (Bk X)) (o r : List X) (g5 g6 g7 g8 : Option T), (i ≤ base.length ∧ ((its base E).take i).foldl lstep ⟨[], [], []⟩ = ⟨f, o, r⟩ ∨ i = base.length + 1 ∧ f = blocksL (its base E) (fin base E)) ∧
    f.length ≤ 2 * i ∧ o.length ≤ i ∧ r.length ≤ i ∧ (∀ b ∈ f, NB i b) ∧ (∀ x ∈ o, Tx x) ∧ (∀ x ∈ r, Tx x) ∧
    ρ = [some (.im (rowL base)), some (.im (.lst (E.map edD))), some (.ls (f.map fun b => .im (bkD b))), some (.im (rowL o)), some (.im (rowL r)), g5, g6, g7, g8]
theorem lblocks_ok (n : Nat) {base : List X} {E : EdE} (hE : E.length = base.length + 1) (hb : Rw base) (hl : ∀ e ∈ E, e.1.length ≤ 1 ∧ ∀ x ∈ e.1, Tx x) :
    F (n + 1) 25 [.im (rowL base), .im (.lst (E.map edD))] = some (.im (.tup ((blocksL (its base E) (fin base E)).map bkD)), [.im (rowL base), .im (.lst (E.map edD))]) := by
  have lb := hb.1
  refine FQ (fd := f__law_blocks) rfl ⟨rfl, by decide, rfl⟩ rfl rfl rfl ?_
  generalize F n = Φ
  unfold f__law_blocks
  rw [wp_cons]
  simp
  rw [wp_cons]
  refine wp_for (ds := enumD 0 (E.map edD)) (ρ1 := [some (.im (rowL base)), some (.im (.lst (E.map edD))), some (.ls []), some (.im (.lst [])), some (.im (.lst [])), none, none, none, none]) (I_lblocks base E) (by simp) ?_ ?_ ?_
  · exact ⟨[], [], [], none, none, none, none, .inl ⟨Nat.zero_le _, rfl⟩, by simp, by simp, by simp, (fun b hb => nomatch hb), (fun b hb => nomatch hb), (fun b hb => nomatch hb), by simp [rowL]⟩
  · intro i d ρ hd hI
    obtain ⟨f, o, r, g5, g6, g7, g8, hst, hf, ho, hr, nf, no, nr, rfl⟩ := hI
    have hi : i < E.length := by
      have := (List.getElem?_eq_some_iff.mp hd).1
      rw [enumD_len] at this
      simpa using this
    have hst : ((its base E).take i).foldl lstep ⟨[], [], []⟩ = ⟨f, o, r⟩ := by
      rcases hst with h | h
      · exact h.2
      · omega
    obtain ⟨x, hx⟩ : ∃ x, E[i]? = some x := ⟨_, List.getElem?_eq_getElem hi⟩
    have := enumD_get (E.map edD) 0 i (edD x) (by rw [List.getElem?_map, hx]; rfl)
    rw [this, Nat.zero_add] at hd
    cases hd
    have hxl := hl x (List.mem_of_getElem? hx)
    have a1 := add_rowL (a := r) (b := x.1) (by omega)
    have nr2 : ∀ y ∈ r ++ x.1, Tx y := fun y hy => (List.mem_append.mp hy).elim (nr y) (hxl.2 y)
    have a5 : D.lst [] = rowL [] := rfl
    simp [show edD x = D.tup [rowL x.1, D.bl x.2] from rfl]
    unfold L__law_blocks_1
    rw [wp_cons]
    simp [a1]
    rw [wp_cons]
    refine wp_ite ?_
    simp [opLen_rowL]
    have NBup : ∀ b, NB i b → NB (i + 1) b := fun b h => by
      cases b with
      | keep n => exact Nat.le_succ_of_le h
      | turn o f => exact h
    refine ⟨fun h1 h2 => ?_, fun h1 => ?_⟩
    · -- a text that does not stay
      obtain ⟨y, hy⟩ : ∃ y, base[i]? = some y := ⟨_, List.getElem?_eq_getElem h1⟩
      have hit := its_get base E i y x hy hx
      have hs : ((its base E).take (i + 1)).foldl lstep ⟨[], [], []⟩ = ⟨f, o ++ [y], r ++ x.1⟩ := by
        rw [List.take_add_one, hit, List.foldl_append, hst]
        simp [lstep, h2]
      have a2 := slL1 (a := base) (i := i) (by omega) (by omega)
      have e2 : sl base i (i + 1) = [y] := by
        unfold sl
        rw [show i + 1 - i = 1 by omega, List.drop_eq_getElem_cons h1]
        have : base[i] = y := by rw [List.getElem?_eq_getElem h1] at hy; exact Option.some.inj hy
        simp [this]
      rw [e2] at a2
      have a3 := add_rowL (a := o) (b := [y]) (by simp; omega)
      rw [wp_cons]
      simp [a2, a3]
      exact ⟨f, o ++ [y], r ++ x.1, some (.im (.int (i : Int))), some (.im (rowL x.1)), some (.im (.bl x.2)), g8, .inl ⟨by omega, hs⟩, by omega, by simp; omega, by simp; omega, fun b hb => NBup b (nf b hb),
        fun z hz => by
          rcases List.mem_append.mp hz with m | m
          · exact no z m
          · rw [List.mem_singleton.mp m]; exact hb.2 y (List.mem_of_getElem? hy), nr2, by simp [h2]⟩
    · have a6 := add_rowL (a := o) (b := r ++ x.1) (by rw [List.length_append]; omega)
      have a7 := opEq_rowL (a := o ++ (r ++ x.1)) (b := []) (fun z hz => (List.mem_append.mp hz).elim (no z) (nr2 z)) (fun z hz => nomatch hz)
      rw [wp_cons]
      refine wp_ite ?_
      simp [a5, a6, a7]
      have tp : ∀ r : List X, opTuple (.im (rowL r)) = some (.im (rowD r)) := fun _ => rfl
      have lf : f.length < 1000000 := by omega
      generalize hf2 : addTurn f o (r ++ x.1) = f2
      have nf2 : ∀ b ∈ f2, NB i b := by
        intro b hb
        rw [← hf2] at hb
        unfold addTurn at hb
        split at hb
        · exact nf b hb
        · rcases List.mem_append.mp hb with m | m
          · exact nf b m
          · rw [List.mem_singleton.mp m]; exact ⟨no, nr2⟩
      have lf2 : f2.length ≤ 2 * i + 1 := by
        have := addTurn_len f o (r ++ x.1)
        rw [hf2] at this
        omega
      have fin1 : i = base.length → f2 = blocksL (its base E) (fin base E) := by
        intro e
        have h3 := fin_get base E x (by rw [← e]; exact hx)
        unfold blocksL
        rw [e, List.take_of_length_le (by rw [its_len base E hE]; omega)] at hst
        rw [hst, h3]
        exact hf2.symm
      have nxt : i < base.length → ((its base E).take (i + 1)).foldl lstep ⟨[], [], []⟩ = ⟨addKeep f2, [], []⟩ := by
        intro e
        obtain ⟨y, hy⟩ : ∃ y, base[i]? = some y := ⟨_, List.getElem?_eq_getElem e⟩
        have hit := its_get base E i y x hy hx
        rw [List.take_add_one, hit, List.foldl_append, hst]
        have := h1 e
        simp [lstep, this, hf2]
      refine ⟨fun hne => ?_, fun e1 e2 e3 => ?_⟩
      · have hf3 : f2 = f ++ [.turn o (r ++ x.1)] := by
          rw [← hf2]
          unfold addTurn
          rw [if_neg]
          simp only [List.append_eq_nil_iff]
          intro z
          rcases hne with q | q | q
          · exact q z.1
          · exact q z.2.1
          · exact q z.2.2
        rw [wp_cons]
        simp [tp, lf]
        have e4 : f.map (fun b => T.im (bkD b)) ++ [T.im (D.tup [D.str [116, 117, 114, 110], rowD o, rowD (r ++ x.1)])] = f2.map (fun b => T.im (bkD b)) := by
          rw [hf3]; simp [bkD, TURN]
        rw [e4]
        clear e4 hf3 hne
        rw [wp_cons]
        simp
        rw [wp_cons]
        refine wp_ite ?_
        simp [opLen_rowL]
        refine ⟨fun hib => ?_, fun hib => ?_⟩
        · rcases List.eq_nil_or_concat f2 with z | ⟨l, b, z⟩
          · have hk : addKeep f2 = [.keep 1] := by rw [z]; rfl
            rw [z]
            rw [wp_cons]
            simp [show opEq (.lst []) (.lst []) = some true from rfl]
            rw [wp_cons]
            simp
            exact ⟨_, [], [], some (.im (.int (i : Int))), some (.im (rowL x.1)), some (.im (.bl x.2)), some (.im (.int 0)), .inl ⟨by omega, nxt hib⟩, by rw [hk]; simp; omega, by simp, by simp, by rw [hk]; intro b hb; rw [List.mem_singleton.mp hb]; exact Nat.succ_le_succ (Nat.zero_le _), (fun _ h => nomatch h), (fun _ h => nomatch h), by rw [hk]; simp [bkD, KEEP, rowL]⟩
          · rw [List.concat_eq_append] at z
            have hne : ¬ f2 = [] := by rw [z]; simp
            have q0 := opEq_bks nf2 (by omega)
            have q1 : atI (f2.map fun b => T.im (bkD b)) (-1) = some (.im (bkD b)) := by
              rw [z, List.map_append]
              have := ixN_neg (n := ((l.map fun b => T.im (bkD b)) ++ [T.im (bkD b)]).length) (i := 1) (by omega) (by simp)
              unfold atI
              rw [show (-1 : Int) = -((1 : Nat) : Int) from rfl, List.map_singleton, this]
              simp
            have q2 : (f2.map fun b => T.im (bkD b))[(f2.map fun b => T.im (bkD b)).length - 1]? = some (.im (bkD b)) := by
              rw [z]; simp
            have q3 : (f2.map fun b => T.im (bkD b)).dropLast = l.map fun b => T.im (bkD b) := by
              rw [z]; simp
            have nl : l.length + 1 = f2.length := by rw [z]; simp
            rw [List.length_map] at q2
            rw [wp_cons]
            cases b with
            | keep m =>
              have hk : addKeep f2 = l ++ [.keep (m + 1)] := by rw [z, addKeep_keep]
              have r0 : opIxA (.im (bkD (.keep m))) (.im (.int 0)) = some (.im (.str KEEP)) := rfl
              have r1 : opIxA (.im (bkD (.keep m))) (.im (.int 1)) = some (.im (.int (m : Int))) := rfl
              have r2 : l.length < 1000000 := by omega
              simp [Function.comp_def, q0, hne, q1, q2, q3, r0, r1, KEEP]
              rw [wp_cons]
              simp [r2]
              exact ⟨_, [], [], some (.im (.int (i : Int))), some (.im (rowL x.1)), some (.im (.bl x.2)), some (.im (.int (m : Int))), .inl ⟨by omega, nxt hib⟩, by rw [hk]; simp; omega, by simp, by simp, by
                rw [hk]; intro b hb
                rcases List.mem_append.mp hb with y | y
                · exact NBup _ (nf2 b (by rw [z]; exact List.mem_append_left _ y))
                · rw [List.mem_singleton.mp y]
                  have : NB i (.keep m) := nf2 _ (by rw [z]; simp)
                  exact Nat.succ_le_succ this, (fun _ h => nomatch h), (fun _ h => nomatch h), by rw [hk]; simp [bkD, KEEP, rowL]⟩
            | turn o' r' =>
              have hk : addKeep f2 = f2 ++ [.keep 1] := by rw [z, addKeep_turn]
              have r0 : opIxA (.im (bkD (.turn o' r'))) (.im (.int 0)) = some (.im (.str TURN)) := rfl
              have r2 : f2.length < 1000000 := by omega
              simp [Function.comp_def, q0, hne, q1, r0, KEEP, TURN]
              rw [wp_cons]
              simp [r2]
              exact ⟨_, [], [], some (.im (.int (i : Int))), some (.im (rowL x.1)), some (.im (.bl x.2)), some (.im (.int 0)), .inl ⟨by omega, nxt hib⟩, by rw [hk]; simp; omega, by simp, by simp, by
                rw [hk]; intro b hb
                rcases List.mem_append.mp hb with y | y
                · exact NBup _ (nf2 b y)
                · rw [List.mem_singleton.mp y]; exact Nat.succ_le_succ (Nat.zero_le _), (fun _ h => nomatch h), (fun _ h => nomatch h), by rw [hk]; simp [bkD, KEEP, rowL]⟩
        · exact ⟨f2, [], [], some (.im (.int (i : Int))), some (.im (rowL x.1)), some (.im (.bl x.2)), g8, .inr ⟨by omega, fin1 (by omega)⟩, by omega, by simp, by simp, fun b hb => NBup b (nf2 b hb), (fun _ h => nomatch h), (fun _ h => nomatch h), by simp [rowL]⟩
      · have hf3 : f2 = f := by
          rw [← hf2, e1, e2, e3]; rfl
        rw [← hf3]
        clear hf3
        have e4 : r ++ x.1 = [] := by rw [e2, e3]; rfl
        rw [wp_cons]
        simp
        rw [wp_cons]
        refine wp_ite ?_
        simp [opLen_rowL]
        refine ⟨fun hib => ?_, fun hib => ?_⟩
        · rcases List.eq_nil_or_concat f2 with z | ⟨l, b, z⟩
          · have hk : addKeep f2 = [.keep 1] := by rw [z]; rfl
            rw [z]
            rw [wp_cons]
            simp [show opEq (.lst []) (.lst []) = some true from rfl]
            rw [wp_cons]
            simp
            exact ⟨_, [], [], some (.im (.int (i : Int))), some (.im (rowL x.1)), some (.im (.bl x.2)), some (.im (.int 0)), .inl ⟨by omega, nxt hib⟩, by rw [hk]; simp; omega, by simp, by simp, by rw [hk]; intro b hb; rw [List.mem_singleton.mp hb]; exact Nat.succ_le_succ (Nat.zero_le _), (fun _ h => nomatch h), (fun _ h => nomatch h), by rw [hk]; simp [bkD, KEEP, rowL]⟩
          · rw [List.concat_eq_append] at z
            have hne : ¬ f2 = [] := by rw [z]; simp
            have q0 := opEq_bks nf2 (by omega)
            have q1 : atI (f2.map fun b => T.im (bkD b)) (-1) = some (.im (bkD b)) := by
              rw [z, List.map_append]
              have := ixN_neg (n := ((l.map fun b => T.im (bkD b)) ++ [T.im (bkD b)]).length) (i := 1) (by omega) (by simp)
              unfold atI
              rw [show (-1 : Int) = -((1 : Nat) : Int) from rfl, List.map_singleton, this]
              simp
            have q2 : (f2.map fun b => T.im (bkD b))[(f2.map fun b => T.im (bkD b)).length - 1]? = some (.im (bkD b)) := by
              rw [z]; simp
            have q3 : (f2.map fun b => T.im (bkD b)).dropLast = l.map fun b => T.im (bkD b) := by
              rw [z]; simp
            have nl : l.length + 1 = f2.length := by rw [z]; simp
            rw [List.length_map] at q2
            rw [wp_cons]
            cases b with
            | keep m =>
              have hk : addKeep f2 = l ++ [.keep (m + 1)] := by rw [z, addKeep_keep]
              have r0 : opIxA (.im (bkD (.keep m))) (.im (.int 0)) = some (.im (.str KEEP)) := rfl
              have r1 : opIxA (.im (bkD (.keep m))) (.im (.int 1)) = some (.im (.int (m : Int))) := rfl
              have r2 : l.length < 1000000 := by omega
              simp [Function.comp_def, q0, hne, q1, q2, q3, r0, r1, KEEP]
              rw [wp_cons]
              simp [r2]
              exact ⟨_, [], [], some (.im (.int (i : Int))), some (.im (rowL x.1)), some (.im (.bl x.2)), some (.im (.int (m : Int))), .inl ⟨by omega, nxt hib⟩, by rw [hk]; simp; omega, by simp, by simp, by
                rw [hk]; intro b hb
                rcases List.mem_append.mp hb with y | y
                · exact NBup _ (nf2 b (by rw [z]; exact List.mem_append_left _ y))
                · rw [List.mem_singleton.mp y]
                  have : NB i (.keep m) := nf2 _ (by rw [z]; simp)
                  exact Nat.succ_le_succ this, (fun _ h => nomatch h), (fun _ h => nomatch h), by rw [hk]; simp [bkD, KEEP, rowL]⟩
            | turn o' r' =>
              have hk : addKeep f2 = f2 ++ [.keep 1] := by rw [z, addKeep_turn]
              have r0 : opIxA (.im (bkD (.turn o' r'))) (.im (.int 0)) = some (.im (.str TURN)) := rfl
              have r2 : f2.length < 1000000 := by omega
              simp [Function.comp_def, q0, hne, q1, r0, KEEP, TURN]
              rw [wp_cons]
              simp [r2]
              exact ⟨_, [], [], some (.im (.int (i : Int))), some (.im (rowL x.1)), some (.im (.bl x.2)), some (.im (.int 0)), .inl ⟨by omega, nxt hib⟩, by rw [hk]; simp; omega, by simp, by simp, by
                rw [hk]; intro b hb
                rcases List.mem_append.mp hb with y | y
                · exact NBup _ (nf2 b y)
                · rw [List.mem_singleton.mp y]; exact Nat.succ_le_succ (Nat.zero_le _), (fun _ h => nomatch h), (fun _ h => nomatch h), by rw [hk]; simp [bkD, KEEP, rowL]⟩
        · exact ⟨f2, [], [], some (.im (.int (i : Int))), some (.im (rowL x.1)), some (.im (.bl x.2)), g8, .inr ⟨by omega, fin1 (by omega)⟩, by omega, by simp, by simp, fun b hb => NBup b (nf2 b hb), (fun _ h => nomatch h), (fun _ h => nomatch h), by simp [rowL]⟩
  · intro ρ hI
    obtain ⟨f, o, r, g5, g6, g7, g8, hst, hf, ho, hr, nf, no, nr, rfl⟩ := hI
    rw [enumD_len, List.length_map] at hst
    have : f = blocksL (its base E) (fin base E) := by
      rcases hst with h | h
      · omega
      · exact h.2
    simp
    rw [wp_cons]
    simp [this]
end K34

set_option Elab.async false
set_option linter.all false
set_option maxRecDepth 2000
set_option maxHeartbeats 4000000
namespace K34
open PySem PySem.Spec PyProof.Rows L2 Em Mg
def its3 : List X → EdE → EdE → List (It3 X)
  | b :: bs, x :: E, y :: G => ⟨b, x.1, x.2, y.1, y.2⟩ :: its3 bs E G
  | _, _, _ => []
theorem its3_one : ∀ (base : List X) (E G : EdE), E.length = base.length + 1 → G.length = base.length + 1 → (its3 base E G).map It3.one = its base E
  | [], [x], [y], _, _ => rfl
  | b :: bs, x :: E, y :: G, h, h2 => by
    have := its3_one bs E G (by simpa using h) (by simpa using h2)
    simp [its3, its, It3.one] at this ⊢
    exact this
theorem its3_two : ∀ (base : List X) (E G : EdE), E.length = base.length + 1 → G.length = base.length + 1 → (its3 base E G).map It3.two = its base G
  | [], [x], [y], _, _ => rfl
  | b :: bs, x :: E, y :: G, h, h2 => by
    have := its3_two bs E G (by simpa using h) (by simpa using h2)
    simp [its3, its, It3.two] at this ⊢
    exact this
theorem its3_bas : ∀ (base : List X) (E G : EdE), E.length = base.length + 1 → G.length = base.length + 1 → bas3 (its3 base E G) = base := fun base E G h h2 => by
  rw [← bas_one, its3_one base E G h h2, its_bas base E h]
theorem its3_len (base : List X) (E G : EdE) (h : E.length = base.length + 1) (h2 : G.length = base.length + 1) : (its3 base E G).length = base.length := by
  have := congrArg List.length (its3_bas base E G h h2)
  simpa [bas3] using this
theorem its3_get : ∀ (base : List X) (E G : EdE) (i : Nat) (b : X) (x y : List X × Bool), base[i]? = some b → E[i]? = some x → G[i]? = some y → (its3 base E G)[i]? = some ⟨b, x.1, x.2, y.1, y.2⟩
  | [], _, _, _, _, _, _, h, _, _ => by simp at h
  | _ :: _, [], _, _, _, _, _, _, h, _ => by simp at h
  | _ :: _, _ :: _, [], _, _, _, _, _, _, h => by simp at h
  | b :: bs, x' :: E, y' :: G, 0, b', x, y, h, h2, h3 => by
    simp at h h2 h3
    subst h h2 h3
    rfl
  | b :: bs, x' :: E, y' :: G, i + 1, b', x, y, h, h2, h3 => by
    simp only [its3, List.getElem?_cons_succ] at h h2 h3 ⊢
    exact its3_get bs E G i b' x y h h2 h3
theorem sl_snoc {a : List X} {i j : Nat} {y : X} (h : i ≤ j) (hy : a[j]? = some y) : sl a i (j + 1) = sl a i j ++ [y] := by
  unfold sl
  have hj : j < a.length := (List.getElem?_eq_some_iff.mp hy).1
  rw [show j + 1 - i = (j - i) + 1 by omega, List.take_add_one]
  congr 1
  rw [List.getElem?_drop, show i + (j - i) = j by omega, hy]
  rfl
theorem slL {a : List X} {i j : Nat} (h : a.length ≤ 1000) (hi : i ≤ a.length) (hj : j ≤ a.length) : opSl (.im (rowL a)) (some (i : Int)) (some (j : Int)) = some (.im (rowL (sl a i j))) := by
  unfold rowL
  rw [opSl_lst (by simp; omega), cutA_nat (by simpa using hi) (by simpa using hj)]
  unfold sl
  simp
theorem opEq_cls {cl : List (Cl X)} (h : ∀ c ∈ cl, ClOk c) : opEq (.lst (cl.map clD)) (.lst []) = some (decide (cl = [])) := by
  have hk := cls_ok h
  have h1 : nices (cl.map clD) = true := by simpa [D.nice] using hk.1
  have h2 : dps (cl.map clD) + 1 ≤ 3 := by simpa [D.dp] using hk.2
  rw [opEq_ok (by unfold D.ok; rw [D.nice, h1, D.dp]; simp; omega) rfl]
  cases cl with
  | nil => rfl
  | cons x xs => rfl
def I_lm (base : List X) (E G : EdE) (i : Nat) (ρ : Rho) : Prop :=
  ∃ (row : List X) (cls : List (Cl X)) (beg : Nat) (out p q : List X) (g7 g10 : Option T),
    (i ≤ base.length ∧ ((its3 base E G).take i).foldl nstep ⟨[], [], 0, 0, [], [], []⟩ = ⟨row, cls, beg, i, out, p, q⟩ ∧ out = sl base beg i ∧ beg ≤ i ∨ i = base.length + 1 ∧ (row, cls) = mergeL (its3 base E G) (fin base E) (fin base G)) ∧
    row.length + p.length + q.length ≤ 5 * i ∧ cls.length ≤ i ∧ (∀ y ∈ row, Tx y) ∧ (∀ y ∈ p, Tx y) ∧ (∀ y ∈ q, Tx y) ∧ (∀ c ∈ cls, ClOk c) ∧
    ρ = [some (.im (rowL base)), some (.im (.lst (E.map edD))), some (.im (.lst (G.map edD))), some (.im (rowL row)), some (.ls (cls.map fun c => .im (clD c))), some (.im (.int (beg : Int))), some (.ls [.im (rowL p), .im (rowL q)]), g7, none, none, g10]
theorem lmerged_ok (n : Nat) {base : List X} {E G : EdE} (hE : E.length = base.length + 1) (hG : G.length = base.length + 1) (hb : Rw base) (hl : ∀ e ∈ E, e.1.length ≤ 1 ∧ ∀ x ∈ e.1, Tx x) (hl2 : ∀ e ∈ G, e.1.length ≤ 1 ∧ ∀ x ∈ e.1, Tx x) :
    F (n + 1) 24 [.im (rowL base), .im (.lst (E.map edD)), .im (.lst (G.map edD))] = some (.im (resD (mergeL (its3 base E G) (fin base E) (fin base G))), [.im (rowL base), .im (.lst (E.map edD)), .im (.lst (G.map edD))]) := by
  have lb := hb.1
  refine FQ (fd := f__law_merged) rfl ⟨rfl, by decide, rfl⟩ rfl rfl rfl ?_
  generalize F n = Φ
  unfold f__law_merged
  rw [wp_cons]
  simp
  rw [wp_cons]
  refine wp_for (ds := (List.range (base.length + 1)).map fun (i : Nat) => D.int (i : Int)) (ρ1 := [some (.im (rowL base)), some (.im (.lst (E.map edD))), some (.im (.lst (G.map edD))), some (.im (.lst [])), some (.ls []), some (.im (.int 0)), some (.ls [.im (.lst []), .im (.lst [])]), none, none, none, none]) (I_lm base E G) ?_ ?_ ?_ ?_
  · exact evi1 (by simp [opLen_rowL] <;> rfl) (rng2_to (by simp) (by omega))
  · exact ⟨[], [], 0, [], [], [], none, none, .inl ⟨Nat.zero_le _, rfl, rfl, Nat.le_refl _⟩, by simp, by simp, (fun _ h => nomatch h), (fun _ h => nomatch h), (fun _ h => nomatch h), (fun _ h => nomatch h), by simp [rowL]⟩
  · intro i d ρ hd hI
    obtain ⟨row, cls, beg, out, p, q, g7, g10, hst, hsz, hcl, nrow, np, nq, ncl, rfl⟩ := hI
    have hi : i < base.length + 1 := by
      have := (List.getElem?_eq_some_iff.mp hd).1
      simpa using this
    simp [hi] at hd
    subst hd
    obtain ⟨hst, hout, hbeg⟩ : ((its3 base E G).take i).foldl nstep ⟨[], [], 0, 0, [], [], []⟩ = ⟨row, cls, beg, i, out, p, q⟩ ∧ out = sl base beg i ∧ beg ≤ i := by
      rcases hst with h | h
      · exact h.2
      · omega
    obtain ⟨x, hx⟩ : ∃ x, E[i]? = some x := ⟨_, List.getElem?_eq_getElem (by omega)⟩
    obtain ⟨y, hy⟩ : ∃ y, G[i]? = some y := ⟨_, List.getElem?_eq_getElem (by omega)⟩
    have hxl := hl x (List.mem_of_getElem? hx)
    have hyl := hl2 y (List.mem_of_getElem? hy)
    have ix1 : atI (E.map edD) (i : Int) = some (edD x) := by
      rw [Em.atI_nat (by simp; omega), List.getElem?_map, hx]; rfl
    have ix2 : atI (G.map edD) (i : Int) = some (edD y) := by
      rw [Em.atI_nat (by simp; omega), List.getElem?_map, hy]; rfl
    have i0 : ∀ e : List X × Bool, opIxA (.im (edD e)) (.im (.int 0)) = some (.im (rowL e.1)) := fun _ => rfl
    have i1 : ∀ e : List X × Bool, opIxA (.im (edD e)) (.im (.int 1)) = some (.im (.bl e.2)) := fun _ => rfl
    have a1 := add_rowL (a := p) (b := x.1) (by omega)
    have a2 := add_rowL (a := q) (b := y.1) (by omega)
    have np2 : ∀ z ∈ p ++ x.1, Tx z := fun z hz => (List.mem_append.mp hz).elim (np z) (hxl.2 z)
    have nq2 : ∀ z ∈ q ++ y.1, Tx z := fun z hz => (List.mem_append.mp hz).elim (nq z) (hyl.2 z)
    have a5 : D.lst [] = rowL [] := rfl
    have c1 : Fx.evf Φ GG C__law_merged_1 [some (.im (rowL base)), some (.im (.lst (E.map edD))), some (.im (.lst (G.map edD))), some (.im (rowL row)), some (.ls (cls.map fun c => .im (clD c))), some (.im (.int (beg : Int))), some (.ls [.im (rowL p), .im (rowL q)]), some (.im (.int (i : Int))), none, none, g10]
        = some (.ls [.im (rowL (p ++ x.1)), .im (rowL (q ++ y.1))], [some (.im (rowL base)), some (.im (.lst (E.map edD))), some (.im (.lst (G.map edD))), some (.im (rowL row)), some (.ls (cls.map fun c => .im (clD c))), some (.im (.int (beg : Int))), some (.im (.lst [rowL p, rowL q])), some (.im (.int (i : Int))), none, none, g10]) := by
      unfold C__law_merged_1
      refine compm_ok (xs := [(p, E, x), (q, G, y)]) (hh := fun z => .tup [rowL z.1, .lst (z.2.1.map edD)]) (fun z => .im (rowL (z.1 ++ z.2.2.1))) ?_ ?_ ?_ ?_ ?_
      · simp [zipD]
      · simp
      · simp
      · intro z hz
        simp at hz
        rcases hz with rfl | rfl
        · simp [ix1, i0, a1]
        · simp [ix2, i0, a2]
      · simp
    simp
    unfold L__law_merged_1
    rw [wp_cons]
    simp [c1]
    rw [wp_cons]
    refine wp_ite ?_
    simp [opLen_rowL, ix1, ix2, i1]
    have sll := sl_len (a := base) (i := i) (j := i + 1)
    have a2b := slL1 (a := base) (i := i) (by omega) (by omega)
    refine ⟨fun hib hk => ?_, fun hk => ?_⟩
    · obtain ⟨b, hbi⟩ : ∃ b, base[i]? = some b := ⟨_, List.getElem?_eq_getElem hib⟩
      have hit := its3_get base E G i b x y hbi hx hy
      have e2 : sl base i (i + 1) = [b] := by
        have := sl_snoc (a := base) (i := i) (j := i) (Nat.le_refl _) hbi
        rw [this]; unfold sl; simp
      rw [e2] at a2b
      have kl : (x.2 && y.2) = false := by
        rcases hk with h | h <;> rw [h] <;> simp
      have hs : ((its3 base E G).take (i + 1)).foldl nstep ⟨[], [], 0, 0, [], [], []⟩ = ⟨row, cls, beg, i + 1, out ++ [b], p ++ x.1 ++ (if x.2 then [b] else []), q ++ y.1 ++ (if y.2 then [b] else [])⟩ := by
        rw [List.take_add_one, hit, List.foldl_append, hst]
        simp [nstep, kl]
      have c2 : Fx.evf Φ GG C__law_merged_2 [some (.im (rowL base)), some (.im (.lst (E.map edD))), some (.im (.lst (G.map edD))), some (.im (rowL row)), some (.ls (cls.map fun c => .im (clD c))), some (.im (.int (beg : Int))), some (.ls [.im (rowL (p ++ x.1)), .im (rowL (q ++ y.1))]), some (.im (.int (i : Int))), none, none, g10]
          = some (.ls [.im (rowL (p ++ x.1 ++ (if x.2 then [b] else []))), .im (rowL (q ++ y.1 ++ (if y.2 then [b] else [])))], [some (.im (rowL base)), some (.im (.lst (E.map edD))), some (.im (.lst (G.map edD))), some (.im (rowL row)), some (.ls (cls.map fun c => .im (clD c))), some (.im (.int (beg : Int))), some (.im (.lst [rowL (p ++ x.1), rowL (q ++ y.1)])), some (.im (.int (i : Int))), none, none, g10]) := by
        have ad : ∀ (p : List X) (k : Bool), p.length ≤ 500 → opAdd (.im (rowL p)) (.im (if k = true then rowL [b] else .lst [])) = some (.im (rowL (p ++ (if k then [b] else [])))) := by
          intro p k hp
          cases k with
          | true => exact add_rowL (by simp; omega)
          | false => exact add_rowL (a := p) (b := []) (by simp; omega)
        unfold C__law_merged_2
        refine compm_ok (xs := [(p ++ x.1, E, x), (q ++ y.1, G, y)]) (hh := fun z => .tup [rowL z.1, .lst (z.2.1.map edD)]) (fun z => .im (rowL (z.1 ++ (if z.2.2.2 then [b] else [])))) ?_ ?_ ?_ ?_ ?_
        · simp [zipD]
        · simp
        · simp
        · intro z hz
          simp at hz
          rcases hz with rfl | rfl
          · have := ad (p ++ x.1) x.2 (by rw [List.length_append]; omega)
            simp [ix1, i1, a2b, this]
          · have := ad (q ++ y.1) y.2 (by rw [List.length_append]; omega)
            simp [ix2, i1, a2b, this]
        · simp
      have tb : Tx b := hb.2 b (List.mem_of_getElem? hbi)
      have nb : ∀ (k : Bool), ∀ z ∈ (if k then [b] else []), Tx z := fun k z hz => by
        cases k
        · cases hz
        · rw [List.mem_singleton.mp hz]; exact tb
      have lb2 : ∀ k : Bool, (if k then [b] else []).length ≤ 1 := fun k => by cases k <;> simp
      rw [wp_cons]
      simp [c2]
      refine ⟨row, cls, beg, out ++ [b], p ++ x.1 ++ (if x.2 then [b] else []), q ++ y.1 ++ (if y.2 then [b] else []), some (.im (.int (i : Int))), g10, .inl ⟨by omega, hs, by rw [sl_snoc hbeg hbi, hout], by omega⟩, ?_, by omega, nrow,
        fun z hz => (List.mem_append.mp hz).elim (np2 z) (nb _ z), fun z hz => (List.mem_append.mp hz).elim (nq2 z) (nb _ z), ncl, by simp⟩
      have := lb2 x.2
      have := lb2 y.2
      simp only [List.length_append]
      omega
    · have a6 := slL (a := base) (i := beg) (j := i) (by omega) (by omega) (by omega)
      rw [← hout] at a6
      have nout : ∀ z ∈ out, Tx z := fun z hz => hb.2 z (sl_mem z (hout ▸ hz))
      have q1 := opEq_rowL np2 nout
      have q2 := opEq_rowL np2 nq2
      have q3 := opEq_rowL nq2 nout
      have z0 : ∀ x y : T, atI [x, y] 0 = some x := fun _ _ => rfl
      have z1 : ∀ x y : T, atI [x, y] 1 = some y := fun _ _ => rfl
      have tp : ∀ r : List X, opTuple (.im (rowL r)) = some (.im (rowD r)) := fun _ => rfl
      have lcl : cls.length < 1000000 := by omega
      have ra := add_rowL (a := row) (b := q ++ y.1) (by rw [List.length_append]; omega)
      have rb := add_rowL (a := row) (b := p ++ x.1) (by rw [List.length_append]; omega)
      have csz := close_size row cls beg i out (p ++ x.1) (q ++ y.1)
      simp only [List.length_append] at csz
      have rsz : (closeR row out (p ++ x.1) (q ++ y.1)).length ≤ row.length + (p.length + x.1.length) + (q.length + y.1.length) := by
        unfold closeR
        split
        · simp only [List.length_append]; omega
        · split
          · simp only [List.length_append]; omega
          · omega
      have sl1 : (sl base i (i + 1)).length ≤ 1 := by
        unfold sl
        rw [List.length_take]; omega
      generalize hR : closeR row out (p ++ x.1) (q ++ y.1) = R at csz rsz
      generalize hC : closeC cls beg i out (p ++ x.1) (q ++ y.1) = Cc at csz
      have hRT : ∀ z ∈ R, Tx z := by
        intro z hz
        rw [← hR] at hz
        unfold closeR at hz
        split at hz
        · exact (List.mem_append.mp hz).elim (nrow z) (nq2 z)
        · split at hz
          · exact (List.mem_append.mp hz).elim (nrow z) (np2 z)
          · exact nrow z hz
      have hCT : ∀ c ∈ Cc, ClOk c := by
        intro c hc
        rw [← hC] at hc
        unfold closeC at hc
        split at hc
        · exact ncl c hc
        · split at hc
          · exact ncl c hc
          · rcases List.mem_append.mp hc with m | m
            · exact ncl c m
            · rw [List.mem_singleton.mp m]
              exact ⟨np2, nq2, by simp only; omega, by simp only; omega⟩
      have a9 := add_rowL (a := R) (b := sl base i (i + 1)) (by omega)
      have concl : I_lm base E G (i + 1) [some (.im (rowL base)), some (.im (.lst (E.map edD))), some (.im (.lst (G.map edD))), some (.im (rowL (R ++ sl base i (i + 1)))), some (.ls (Cc.map fun c => .im (clD c))), some (.im (.int ((i : Int) + 1))), some (.ls [.im (.lst []), .im (.lst [])]), some (.im (.int (i : Int))), none, none, some (.im (rowL out))] := by
        refine ⟨R ++ sl base i (i + 1), Cc, i + 1, [], [], [], some (.im (.int (i : Int))), some (.im (rowL out)), ?_, ?_, by omega, fun z hz => (List.mem_append.mp hz).elim (hRT z) (fun m => hb.2 z (sl_mem z m)), (fun _ h => nomatch h), (fun _ h => nomatch h), hCT, by simp [rowL]⟩
        · rcases Nat.lt_or_ge i base.length with hib | hib
          · left
            obtain ⟨b, hbi⟩ : ∃ b, base[i]? = some b := ⟨_, List.getElem?_eq_getElem hib⟩
            have hit := its3_get base E G i b x y hbi hx hy
            have e2 : sl base i (i + 1) = [b] := by
              have := sl_snoc (a := base) (i := i) (j := i) (Nat.le_refl _) hbi
              rw [this]; unfold sl; simp
            have kl := hk hib
            refine ⟨by omega, ?_, by unfold sl; simp, Nat.le_refl _⟩
            rw [List.take_add_one, hit, List.foldl_append, hst, e2]
            simp [nstep, kl.1, kl.2, hR, hC]
          · right
            have hin : i = base.length := by omega
            refine ⟨by omega, ?_⟩
            have e2 : sl base i (i + 1) = [] := by
              unfold sl
              rw [hin, List.drop_length, List.take_nil]
            unfold mergeL
            rw [hin, List.take_of_length_le (by rw [its3_len base E G hE hG]; omega)] at hst
            rw [hst, e2, List.append_nil, fin_get base E x (by rw [← hin]; exact hx), fin_get base G y (by rw [← hin]; exact hy)]
            unfold nend
            simp only
            rw [hin] at hC
            rw [hR, hC]
        · simp only [List.length_append, List.length_nil]; omega
      rw [wp_cons]
      simp [a6]
      rw [wp_cons]
      refine wp_ite ?_
      simp [z0, z1, q1, q2]
      refine ⟨fun hcond => ?_, fun n1 n2 => ?_⟩
      · have e1 : R = row ++ (q ++ y.1) := by
          rw [← hR]; unfold closeR; rw [if_pos hcond]
        have e2 : Cc = cls := by
          rw [← hC]; unfold closeC; rw [if_pos hcond]
        rw [wp_cons]
        simp [z1, ra]
        rw [← e1, ← e2]
        rw [wp_cons]
        simp [a2b, a9]
        exact concl
      · rw [wp_cons]
        refine wp_ite ?_
        simp [z1, q3]
        have nn : ¬ (p ++ x.1 = out ∨ p ++ x.1 = q ++ y.1) := fun z => z.elim n1 n2
        refine ⟨fun hcond => ?_, fun hcond => ?_⟩
        · have e1 : R = row ++ (p ++ x.1) := by
            rw [← hR]; unfold closeR; rw [if_neg nn, if_pos hcond]
          have e2 : Cc = cls := by
            rw [← hC]; unfold closeC; rw [if_neg nn, if_pos hcond]
          rw [wp_cons]
          simp [z0, rb]
          rw [← e1, ← e2]
          rw [wp_cons]
          simp [a2b, a9]
          exact concl
        · have e1 : R = row := by
            rw [← hR]; unfold closeR; rw [if_neg nn, if_neg hcond]
          have e2 : Cc = cls ++ [(beg, i, p ++ x.1, q ++ y.1)] := by
            rw [← hC]; unfold closeC; rw [if_neg nn, if_neg hcond]
          have e3 : cls.map (fun c => T.im (clD c)) ++ [T.im (D.tup [D.int (beg : Int), D.int (i : Int), rowD (p ++ x.1), rowD (q ++ y.1)])] = Cc.map (fun c => T.im (clD c)) := by
            rw [e2]; simp [clD]
          rw [wp_cons]
          simp [z0, z1, tp, lcl]
          rw [e3, ← e1]
          rw [wp_cons]
          simp [a2b, a9]
          exact concl
  · intro ρ hI
    obtain ⟨row, cls, beg, out, p, q, g7, g10, hst, hsz, hcl, nrow, np, nq, ncl, rfl⟩ := hI
    rw [List.length_map, List.length_range] at hst
    have hm : mergeL (its3 base E G) (fin base E) (fin base G) = (row, cls) := by
      rcases hst with h | h
      · omega
      · exact h.2.symm
    have e := opEq_cls ncl
    rw [hm]
    unfold resD
    have tp : ∀ r : List X, opTuple (.im (rowL r)) = some (.im (rowD r)) := fun _ => rfl
    simp
    rw [wp_cons]
    simp [Function.comp_def, e, tp]
    rfl
end K34

set_option Elab.async false
set_option linter.all false
set_option maxRecDepth 2000
set_option maxHeartbeats 4000000
namespace K34
open PySem PySem.Spec PyProof.Rows L2 Em Mg
theorem shown_ex {d : D} (h : d.ok = true) (hs : d.sz ≤ 1000000) : ∃ s, opShown d = some (.im (.str s)) := ⟨_, opShown_ok h hs⟩
theorem ok_of {d : D} (h1 : d.nice = true) (h2 : d.dp ≤ 50) : d.ok = true := by unfold D.ok; simp [h1, h2]
theorem str_sz {x : X} (h : Tx x) : (D.str x).sz ≤ 1010 := by
  have := h.1
  simp only [D.sz]; omega
theorem strs_sz {r : List X} (h : ∀ x ∈ r, Tx x) : szs (r.map D.str) ≤ 1012 * r.length := by
  have := szs_le (ds := r.map D.str) (n := 1010) fun d hd => by
    obtain ⟨x, hx, rfl⟩ := List.mem_map.mp hd
    exact str_sz (h x hx)
  rw [List.length_map] at this
  omega
theorem row_sz {r : List X} (h : ∀ x ∈ r, Tx x) : (rowD r).sz ≤ 1012 * r.length + 10 := by
  have := strs_sz h
  unfold rowD
  simp only [D.sz]; omega
theorem int_sz {n : Nat} (h : n ≤ 1000) : (D.int (n : Int)).sz ≤ 20 := by
  simp only [D.sz, Int.natAbs_natCast]
  rcases Nat.eq_zero_or_pos n with z | z
  · rw [z]; decide
  · have := (Nat.log2_lt (by omega : n ≠ 0)).mpr (show n < 2 ^ 10 by omega)
    omega
theorem row_shown {r : List X} (h : ∀ x ∈ r, Tx x) (hl : r.length ≤ 100) : ∃ s, opShown (rowD r) = some (.im (.str s)) :=
  shown_ex (row_ok h) (by have := row_sz h; omega)
theorem prs_shown {ps : List (Nat × Nat)} (h : ∀ p ∈ ps, p.1 ≤ 1000 ∧ p.2 ≤ 1000) (hl : ps.length ≤ 100) : ∃ s, opShown (.tup (ps.map prD)) = some (.im (.str s)) := by
  refine shown_ex (ok_of ?_ ?_) ?_
  · rw [D.nice, nices_iff]
    intro d hd
    obtain ⟨p, hp, rfl⟩ := List.mem_map.mp hd
    exact (prD_ok (h p hp).1 (h p hp).2).1
  · rw [D.dp]
    have : dps (ps.map prD) ≤ 1 := by
      rw [dps_le]
      intro d hd
      obtain ⟨p, hp, rfl⟩ := List.mem_map.mp hd
      exact (prD_ok (h p hp).1 (h p hp).2).2
    omega
  · rw [D.sz]
    have := szs_le (ds := ps.map prD) (n := 60) fun d hd => by
      obtain ⟨p, hp, rfl⟩ := List.mem_map.mp hd
      have h1 := int_sz (h p hp).1
      have h2 := int_sz (h p hp).2
      unfold prD
      simp only [D.sz, szs] at h1 h2 ⊢
      omega
    rw [List.length_map] at this
    omega
theorem way_sz {bs : List (Bk X)} {a b : List X} (W : Way bs a b) (ha : ∀ x ∈ a, Tx x) (hb : ∀ x ∈ b, Tx x) (hl : a.length ≤ 1000) : szs (bs.map bkD) ≤ 200 * bs.length + 1012 * (a.length + b.length) := by
  induction W with
  | nil => simp [szs]
  | @keep bs a b xs ne _ ih =>
    have := ih (fun x hx => ha x (List.mem_append_right _ hx)) (fun x hx => hb x (List.mem_append_right _ hx)) (by simp at hl; omega)
    have hi := int_sz (n := xs.length) (by simp at hl; omega)
    simp only [List.map_cons, szs, bkD, D.sz, List.length_append, List.length_cons, KEEP, List.length_nil] at hi ⊢
    omega
  | @turn bs a b o f _ ih =>
    have := ih (fun x hx => ha x (List.mem_append_right _ hx)) (fun x hx => hb x (List.mem_append_right _ hx)) (by simp at hl; omega)
    have h1 := row_sz (r := o) fun x hx => ha x (List.mem_append_left _ hx)
    have h2 := row_sz (r := f) fun x hx => hb x (List.mem_append_left _ hx)
    simp only [List.map_cons, szs, bkD, D.sz, List.length_append, List.length_cons, TURN, List.length_nil] at h1 h2 ⊢
    omega
theorem way_NB {bs : List (Bk X)} {a b : List X} (W : Way bs a b) (ha : ∀ x ∈ a, Tx x) (hb : ∀ x ∈ b, Tx x) (hl : a.length ≤ 1000) : ∀ k ∈ bs, NB 1000 k := fun k hk => by
  cases k with
  | keep n =>
    have := W.pos n hk
    show n ≤ 1000
    omega
  | turn o f =>
    obtain ⟨_, _, h3, h4⟩ := W.sub o f hk
    exact ⟨fun x hx => ha x (h3 x hx), fun x hx => hb x (h4 x hx)⟩
theorem bks_shown {bs : List (Bk X)} {a b : List X} (W : Way bs a b) (ha : ∀ x ∈ a, Tx x) (hb : ∀ x ∈ b, Tx x) (hl : a.length ≤ 100) (hl2 : b.length ≤ 100) (hbs : bs.length ≤ 1000) : ∃ s, opShown (.tup (bs.map bkD)) = some (.im (.str s)) := by
  obtain ⟨h1, h2⟩ := bks_nice (way_NB W ha hb (by omega)) (Nat.le_refl _)
  refine shown_ex (ok_of ?_ ?_) ?_
  · rw [D.nice]; exact h1
  · rw [D.dp]; omega
  · rw [D.sz]
    have := way_sz W ha hb (by omega)
    omega
/-! ### what is kept -/
theorem keep_go : ∀ (s : List (It X)) (i j : Nat), (List.range' i s.length).filter (fun a => ((s[a - i]?).map (·.k)).getD false) = (prs s i j).map (·.1)
  | [], _, _ => rfl
  | x :: s, i, j => by
    have c : ∀ j', (List.range' (i + 1) s.length).filter (fun a => (((x :: s)[a - i]?).map (·.k)).getD false) = (prs s (i + 1) j').map (·.1) := fun j' => by
      rw [← keep_go s (i + 1) j']
      refine List.filter_congr fun a ha => ?_
      have ha := List.mem_range'_1.mp ha
      rw [show a - i = (a - (i + 1)) + 1 by omega, List.getElem?_cons_succ]
    rw [List.length_cons, List.range'_succ, List.filter_cons, prs_cons]
    simp only [Nat.sub_self, List.getElem?_cons_zero, Option.map_some, Option.getD_some]
    cases x.k with
    | true => simp only [if_true, List.map_cons]; rw [c]
    | false => simp only [Bool.false_eq_true, if_false]; rw [c]
def kpt (E : EdE) (i : Nat) : Bool := ((E[i]?).map (·.2)).getD false
theorem kpt_eq {base : List X} {E : EdE} (hE : E.length = base.length + 1) : (List.range base.length).filter (kpt E) = (prs (its base E) 0 0).map (·.1) := by
  rw [← keep_go (its base E) 0 0, List.range_eq_range', its_len base E hE]
  refine List.filter_congr fun a ha => ?_
  have ha := List.mem_range'_1.mp ha
  rw [Nat.sub_zero]
  unfold kpt
  obtain ⟨x, hx⟩ : ∃ x, E[a]? = some x := ⟨_, List.getElem?_eq_getElem (by omega)⟩
  obtain ⟨b, hb⟩ : ∃ b, base[a]? = some b := ⟨_, List.getElem?_eq_getElem (by omega)⟩
  rw [its_get base E a b x hb hx, hx]
  rfl
theorem lindex_ok {a b : List X} {ps : List (Nat × Nat)} (C : Chn a b ps) {p : Nat × Nat} (hp : p ∈ ps) {x : X} (hx : a[p.1]? = some x) : onL (opLix (.str x)) (.im (rowL b)) = some (.im (.int (p.2 : Int))) := by
  have hat := C.at_ p hp
  have h1 : (b.map D.str).all D.flat = true := by
    rw [List.all_eq_true]
    intro d hd
    obtain ⟨y, _, rfl⟩ := List.mem_map.mp hd
    rfl
  have h2 : (b.map D.str).findIdx? (fun e => e.eqb (.str x)) = some p.2 := by
    rw [List.findIdx?_eq_some_iff_getElem]
    refine ⟨by simpa using hat.2.1, ?_, ?_⟩
    · have : b[p.2] = x := by
        have := hat.2.2
        rw [hx, List.getElem?_eq_getElem hat.2.1] at this
        exact (Option.some.inj this).symm
      simp [this, D.eqb]
    · intro j hj
      simp only [List.getElem_map]
      intro e
      simp only [D.eqb, beq_iff_eq] at e
      have m := C.all p.1 j hat.1 (by omega) (by rw [hx, List.getElem?_eq_getElem (by omega), e])
      rcases chain_cmp C.asc hp m with z | z | z
      · rw [z] at hj; exact Nat.lt_irrefl _ hj
      · simp only at z; omega
      · simp only at z; omega
  unfold rowL
  rw [onL_lst]
  unfold opLix
  have h3 : (D.str x).flat = true := rfl
  rw [h1, h3, h2]
  rfl
theorem w_way {base row : List X} {E : EdE} {ps : List (Nat × Nat)} {bs : List (Bk X)} (hE : E.length = base.length + 1) (hb : Rw base) (hr : Rw row) (hl : ∀ e ∈ E, e.1.length ≤ 1 ∧ ∀ x ∈ e.1, Tx x) (C : Chn base row ps) (hk : (List.range base.length).filter (kpt E) = ps.map (·.1)) (W : Way bs base row) (hbs : bs.length ≤ 81) (Φ : Fns)
    (H6 : Φ 6 [.im (rowD base), .im (rowD row)] = some (.im (.tup (ps.map prD)), [.im (rowD base), .im (rowD row)]))
    (H8 : Φ 8 [.im (rowD base), .im (rowD row)] = some (.im (.tup (bs.map bkD)), [.im (rowD base), .im (rowD row)]))
    (H25 : Φ 25 [.im (rowL base), .im (.lst (E.map edD))] = some (.im (.tup (bs.map bkD)), [.im (rowL base), .im (.lst (E.map edD))]))
    (H9 : ∀ {a b : List X} {bs : List (Bk X)}, Way bs a b → Rw a → Rw b → bs.length ≤ 81 → Φ 9 [.im (rowD a), .im (.tup (bs.map bkD))] = some (.im (rowD b), [.im (rowD a), .im (.tup (bs.map bkD))])) :
    WP (f__law_is_way_right.body.runs Φ GG [] [some (.im (rowL base)), some (.im (.lst (E.map edD))), some (.im (rowL row)), none, none, none, none, none]) (Ret [.im (rowL base), .im (.lst (E.map edD)), .im (rowL row)] fun t' us' => t' = .im (.bl true) ∧ us' = [.im (rowL base), .im (.lst (E.map edD)), .im (rowL row)]) := by
  have lb := hb.1
  have lr := hr.1
  have lps := chn_len C
  have tp : ∀ r : List X, opTuple (.im (rowL r)) = some (.im (rowD r)) := fun _ => rfl
  have c1 : Fx.evf Φ GG C__law_is_way_right_1 [some (.im (rowL base)), some (.im (.lst (E.map edD))), some (.im (rowL row)), none, none, none, none, none] = some (.ls (ps.map fun p => .im (.int (p.1 : Int))), [some (.im (rowL base)), some (.im (.lst (E.map edD))), some (.im (rowL row)), none, none, none, none, none]) := by
    unfold C__law_is_way_right_1
    refine (compIfm_ok (ρ1 := [some (.im (rowL base)), some (.im (.lst (E.map edD))), some (.im (rowL row)), none, none, none, none, none]) (xs := List.range base.length) (hh := fun k => D.int ((k : Nat) : Int)) (kpt E) (fun i => .im (.int (i : Int))) (evi1 (by simp [opLen_rowL] <;> rfl) (rng2_to rfl (by omega))) (by simp) (by simp; omega) ?_ (by simp)).trans ?_
    · intro i hi
      have hi := List.mem_range.mp hi
      obtain ⟨x, hx⟩ : ∃ x, E[i]? = some x := ⟨_, List.getElem?_eq_getElem (by omega)⟩
      have ix1 : atI (E.map edD) (i : Int) = some (edD x) := by
        rw [Em.atI_nat (by simp; omega), List.getElem?_map, hx]; rfl
      have i1 : opIxA (.im (edD x)) (.im (.int 1)) = some (.im (.bl x.2)) := rfl
      simp [ix1, i1, kpt, hx]
    · rw [hk]
      simp [Function.comp_def]
  have c2 : Fx.evf Φ GG C__law_is_way_right_2 [some (.im (rowL base)), some (.im (.lst (E.map edD))), some (.im (rowL row)), some (.ls (ps.map fun p => .im (.int (p.1 : Int)))), none, none, none, none] = some (.ls (ps.map fun p => .im (prD p)), [some (.im (rowL base)), some (.im (.lst (E.map edD))), some (.im (rowL row)), some (.im (.lst (ps.map fun p => .int (p.1 : Int)))), none, none, none, none]) := by
    unfold C__law_is_way_right_2
    refine compm_ok (xs := ps) (hh := fun p => D.int (p.1 : Int)) (fun p => .im (prD p)) (by simp [Function.comp_def]) (by simp) (by omega) ?_ (by simp)
    intro p hp
    have hat := C.at_ p hp
    obtain ⟨x, hx⟩ : ∃ x, base[p.1]? = some x := ⟨_, List.getElem?_eq_getElem (by omega)⟩
    have ix1 : opIxA (.im (rowL base)) (.im (.int (p.1 : Int))) = some (.im (.str x)) := by
      unfold rowL
      rw [opIxA_lst, atI_str hx]
    simp [ix1, lindex_ok C hp hx, prD]
  have kd : ∀ b : Bk X, ∃ (c : D × D) (s : List Nat), opIxA (.im (bkD b)) (.im (.int 0)) = some (.im (.str s)) ∧ (s = KEEP ∧ b = back b ∨ s ≠ KEEP ∧ opIxA (.im (bkD b)) (.im (.int 2)) = some (.im c.1) ∧ opIxA (.im (bkD b)) (.im (.int 1)) = some (.im c.2) ∧ bkD (back b) = .tup [.str TURN, c.1, c.2]) := fun b => by
    cases b with
    | keep n => exact ⟨(.non, .non), KEEP, rfl, .inl ⟨rfl, rfl⟩⟩
    | turn o f => exact ⟨(rowD f, rowD o), TURN, rfl, .inr ⟨by decide, rfl, rfl, rfl⟩⟩
  have c3 : ∀ x, Fx.evf Φ GG C__law_is_way_right_3 [some (.im (rowL base)), some (.im (.lst (E.map edD))), some (.im (rowL row)), some (.im (.lst (ps.map fun p => .int (p.1 : Int)))), none, some (.im (.tup (bs.map bkD))), x, none] = some (.ls (bs.map fun b => .im (bkD (back b))), [some (.im (rowL base)), some (.im (.lst (E.map edD))), some (.im (rowL row)), some (.im (.lst (ps.map fun p => .int (p.1 : Int)))), none, some (.im (.tup (bs.map bkD))), x, none]) := by
    intro x
    unfold C__law_is_way_right_3
    refine compm_ok (xs := bs) (hh := bkD) (fun b => .im (bkD (back b))) (by simp) (by simp) (by omega) ?_ (by simp)
    intro b hb
    obtain ⟨c, s, h1, h2⟩ := kd b
    rcases h2 with ⟨h2, h3⟩ | ⟨h2, h3, h4, h5⟩
    · simp [h1, h2, KEEP]
      rw [← h3]
    · have h2' : ¬ s = [107, 101, 101, 112] := h2
      simp [h1, h2', h3, h4, h5, TURN]
  obtain ⟨s1, S1⟩ := prs_shown (ps := ps) (fun p hp => by have := C.at_ p hp; omega) (by omega)
  obtain ⟨s2, S2⟩ := bks_shown W hb.2 hr.2 (by omega) (by omega) (by omega)
  obtain ⟨s3, S3⟩ := row_shown hr.2 (by omega)
  obtain ⟨s4, S4⟩ := row_shown hb.2 (by omega)
  have W2 : Way (bs.map back) row base := W.back
  have H9a := H9 W hb hr hbs
  have H9b := H9 W2 hr hb (by simpa using hbs)
  rw [List.map_map] at H9b
  unfold f__law_is_way_right
  rw [wp_cons]
  simp [c1]
  rw [wp_cons]
  refine wp_ite ?_
  simp [tp, H6, c2, Function.comp_def, S1]
  rw [wp_cons]
  simp [tp, H8]
  rw [wp_cons]
  refine wp_ite ?_
  simp [tp, S2, H25, H9a, S3]
  rw [wp_cons]
  simp [c3, Function.comp_def]
  rw [wp_cons]
  simp only [Function.comp_def] at H9b
  simp [tp, H9b, S4]
theorem way_right_ok (n : Nat) {base : List X} {E : EdE} (hE : E.length = base.length + 1) (hb : Rw base) (hr : Rw (doneE base E)) (hl : ∀ e ∈ E, e.1.length ≤ 1 ∧ ∀ x ∈ e.1, Tx x) (nd : base.Nodup) (nf : ∀ y ∈ frs (its base E) (fin base E), y ∉ base) :
    F (n + 5) 26 [.im (rowL base), .im (.lst (E.map edD)), .im (rowL (doneE base E))] = some (.im (.bl true), [.im (rowL base), .im (.lst (E.map edD)), .im (rowL (doneE base E))]) := by
  have e1 := its_bas base E hE
  have e2 := doneE_row base E hE
  have C : Chn base (doneE base E) (prs (its base E) 0 0) := by
    have := prs_chn (its base E) (fin base E) (by rw [e1]; exact nd) (by rw [e1]; exact nf)
    rw [e1, ← e2] at this
    exact this
  have W : Way (blocksL (its base E) (fin base E)) base (doneE base E) := by
    have := way_of (its base E) (fin base E)
    rw [e1, ← e2] at this
    exact this
  have hbs : (blocksL (its base E) (fin base E)).length ≤ 81 := by
    have := blocks_len (its base E) (fin base E)
    rw [its_len base E hE] at this
    have := hb.1
    omega
  have hB : blocksP base (doneE base E) (prs (its base E) 0 0) = blocksL (its base E) (fin base E) := by
    have := blocks_eq (its base E) (fin base E)
    rw [e1, ← e2] at this
    exact this
  have h8 := changes_ok n C hb hr
  rw [hB] at h8
  exact FQ (fd := f__law_is_way_right) rfl ⟨rfl, by decide, rfl⟩ rfl rfl rfl (w_way hE hb hr hl C (kpt_eq hE) W hbs _ (common_ok (n + 1) C hb hr) h8 (lblocks_ok (n + 3) hE hb hl) fun W ha hb hl => changed_ok n W ha hb hl)
end K34

set_option Elab.async false
set_option linter.all false
set_option maxRecDepth 2000
set_option maxHeartbeats 4000000
namespace K34
open PySem PySem.Spec PyProof.Rows L2 Em Mg
theorem row_mem {α : Type} {P : α → Prop} : ∀ (s : List (It α)) (e : List α), (∀ y ∈ row s e, P y) → ∀ y ∈ frs s e, P y
  | [], e, h, y, hy => h y (by simpa [Mg.frs, row] using hy)
  | x :: s, e, h, y, hy => by
    simp only [Mg.frs, List.flatMap_cons, List.append_assoc] at hy
    rcases List.mem_append.mp hy with m | m
    · exact h y (by unfold row; exact List.mem_append_left _ m)
    · exact row_mem s e (fun z hz => h z (by unfold row; exact List.mem_append_right _ (List.mem_append_right _ hz))) y m
theorem merged_its (n : Nat) {s : List (It3 X)} {e1 e2 : List X} (hb : Rw (bas3 s)) (h1 : Rw (row (s.map It3.one) e1)) (h2 : Rw (row (s.map It3.two) e2)) (nd : (bas3 s).Nodup)
    (nf1 : ∀ y ∈ frs (s.map It3.one) e1, y ∉ bas3 s) (nf2 : ∀ y ∈ frs (s.map It3.two) e2, y ∉ bas3 s) :
    F (n + 5) 15 [.im (rowD (bas3 s)), .im (rowD (row (s.map It3.one) e1)), .im (rowD (row (s.map It3.two) e2))] = some (.im (resD (mergeL s e1 e2)), [.im (rowD (bas3 s)), .im (rowD (row (s.map It3.one) e1)), .im (rowD (row (s.map It3.two) e2))]) ∧
    (∀ y ∈ (mergeL s e1 e2).1, Tx y) ∧ (∀ c ∈ (mergeL s e1 e2).2, ClOk c) ∧ (mergeL s e1 e2).1.length + clsum (mergeL s e1 e2).2 ≤ 80 ∧ (mergeL s e1 e2).2.length ≤ 41 := by
  have C1 : Chn (bas3 s) (row (s.map It3.one) e1) (prs (s.map It3.one) 0 0) := by
    have := prs_chn (s.map It3.one) e1 (by rw [bas_one]; exact nd) (by rw [bas_one]; exact nf1)
    rw [bas_one] at this
    exact this
  have C2 : Chn (bas3 s) (row (s.map It3.two) e2) (prs (s.map It3.two) 0 0) := by
    have := prs_chn (s.map It3.two) e2 (by rw [bas_two]; exact nd) (by rw [bas_two]; exact nf2)
    rw [bas_two] at this
    exact this
  have hls : (bas3 s).length = s.length := by simp [bas3]
  have lb := hb.1
  have f1 := row_mem (P := Tx) _ _ h1.2
  have f2 := row_mem (P := Tx) _ _ h2.2
  have mm := merge_mem Tx s e1 e2 (fun x hx => ⟨hb.2 x.b (List.mem_map.mpr ⟨x, hx, rfl⟩), fun y hy => f1 y (by
      unfold Mg.frs
      exact List.mem_append_left _ (List.mem_flatMap.mpr ⟨x.one, List.mem_map.mpr ⟨x, hx, rfl⟩, hy⟩)), fun y hy => f2 y (by
      unfold Mg.frs
      exact List.mem_append_left _ (List.mem_flatMap.mpr ⟨x.two, List.mem_map.mpr ⟨x, hx, rfl⟩, hy⟩))⟩)
    (fun y hy => f1 y (by unfold Mg.frs; exact List.mem_append_right _ hy)) (fun y hy => f2 y (by unfold Mg.frs; exact List.mem_append_right _ hy))
  have cl : ∀ c ∈ (mergeL s e1 e2).2, ClOk c := fun c hc => by
    obtain ⟨a1, a2, a3, a4⟩ := mm.2 c hc
    exact ⟨a1, a2, by omega, by omega⟩
  have ms := merge_size s e1 e2
  rw [used_eq] at ms
  have l1 := h1.1
  have l2 := h2.1
  have hM : mergeP (bas3 s) (row (s.map It3.one) e1) (row (s.map It3.two) e2) (((List.range (bas3 s).length).filter (good (prs (s.map It3.one) 0 0) (prs (s.map It3.two) 0 0))).map (trip (prs (s.map It3.one) 0 0) (prs (s.map It3.two) 0 0))) = mergeL s e1 e2 := by
    rw [hls, tri_eq, merge_eq]
  have := merged_ok n C1 C2 hb h1 h2 (by rw [hM]; exact cl)
  rw [hM] at this
  exact ⟨this, mm.1, cl, by omega, by omega⟩
theorem cls_sz {cl : List (Cl X)} (h : ∀ c ∈ cl, ClOk c) : szs (cl.map clD) ≤ 200 * cl.length + 1012 * clsum cl := by
  induction cl with
  | nil => simp [szs]
  | cons c cl ih =>
    have := ih fun x hx => h x (List.mem_cons_of_mem _ hx)
    obtain ⟨a1, a2, a3, a4⟩ := h c List.mem_cons_self
    have b1 := row_sz a1
    have b2 := row_sz a2
    have i1 := int_sz a3
    have i2 := int_sz a4
    have e : clsum (c :: cl) = c.2.2.1.length + c.2.2.2.length + clsum cl := by simp [clsum]
    rw [e]
    simp only [List.map_cons, szs, clD, D.sz, List.length_cons] at b1 b2 i1 i2 ⊢
    omega
theorem res_shown {r : List X × List (Cl X)} (h1 : ∀ y ∈ r.1, Tx y) (h2 : ∀ c ∈ r.2, ClOk c) (h3 : r.1.length + clsum r.2 ≤ 80) (h4 : r.2.length ≤ 41) : ∃ s, opShown (resD r) = some (.im (.str s)) := by
  unfold resD
  split
  · have hn := row_ok h1
    unfold D.ok at hn
    simp only [Bool.and_eq_true, decide_eq_true_eq] at hn
    refine shown_ex (ok_of ?_ ?_) ?_
    · rw [D.nice, nices, nices, nices, hn.1]; rfl
    · rw [D.dp, dps, dps, dps]
      have : (D.str MERGED).dp = 0 := rfl
      have : (rowD r.1).dp = 1 := by unfold rowD; rw [D.dp, strs_dps]
      omega
    · have := row_sz h1
      have e : MERGED.length = 6 := rfl
      simp only [D.sz, szs, e]
      omega
  · obtain ⟨k1, k2⟩ := cls_ok h2
    refine shown_ex (ok_of ?_ ?_) ?_
    · rw [D.nice, nices, nices, nices, k1]; rfl
    · rw [D.dp, dps, dps, dps]
      have : (D.str CLASH).dp = 0 := rfl
      omega
    · have := cls_sz h2
      have e : CLASH.length = 5 := rfl
      simp only [D.sz, szs, e]
      omega
/-- texts read from behind -/
theorem rev_tx {x : X} (h : Tx x) : Tx x.reverse := ⟨by rw [List.length_reverse]; exact h.1, fun c hc => h.2 c (List.mem_reverse.mp hc)⟩
theorem rev_inj : ∀ x y : X, x.reverse = y.reverse → x = y := fun x y h => by
  have := congrArg List.reverse h
  simpa using this
theorem rw_rev {r : List X} (h : Rw r) : Rw (r.map List.reverse) := ⟨by rw [List.length_map]; exact h.1, fun x hx => by
  obtain ⟨y, hy, rfl⟩ := List.mem_map.mp hx
  exact rev_tx (h.2 y hy)⟩
theorem frs_sw {φ : X → X} (s : List (It3 X)) (e : List X) : frs ((s.map (It3.sw φ)).map It3.one) (e.map φ) = (frs (s.map It3.two) e).map φ ∧ frs ((s.map (It3.sw φ)).map It3.two) (e.map φ) = (frs (s.map It3.one) e).map φ := by
  have : ∀ s : List (It3 X), ((s.map (It3.sw φ)).map It3.one).flatMap (·.f) = ((s.map It3.two).flatMap (·.f)).map φ ∧ ((s.map (It3.sw φ)).map It3.two).flatMap (·.f) = ((s.map It3.one).flatMap (·.f)).map φ := by
    intro s
    induction s with
    | nil => exact ⟨rfl, rfl⟩
    | cons x s ih =>
      simp only [List.map_cons, List.flatMap_cons, List.map_append]
      rw [ih.1, ih.2]
      exact ⟨rfl, rfl⟩
  unfold Mg.frs
  rw [(this s).1, (this s).2]
  simp
theorem merged_rev (n : Nat) {s : List (It3 X)} {e1 e2 : List X} (hb : Rw (bas3 s)) (h1 : Rw (row (s.map It3.one) e1)) (h2 : Rw (row (s.map It3.two) e2)) (nd : (bas3 s).Nodup)
    (nf1 : ∀ y ∈ frs (s.map It3.one) e1, y ∉ bas3 s) (nf2 : ∀ y ∈ frs (s.map It3.two) e2, y ∉ bas3 s) :
    F (n + 5) 15 [.im (rowD ((bas3 s).map List.reverse)), .im (rowD ((row (s.map It3.two) e2).map List.reverse)), .im (rowD ((row (s.map It3.one) e1).map List.reverse))] =
      some (.im (resD ((mergeL s e1 e2).1.map List.reverse, (mergeL s e1 e2).2.map (clsw List.reverse))), [.im (rowD ((bas3 s).map List.reverse)), .im (rowD ((row (s.map It3.two) e2).map List.reverse)), .im (rowD ((row (s.map It3.one) e1).map List.reverse))]) ∧
    ∃ t, opShown (resD ((mergeL s e1 e2).1.map List.reverse, (mergeL s e1 e2).2.map (clsw List.reverse))) = some (.im (.str t)) := by
  have q1 := row_sw1 (φ := List.reverse) e1 e2 s
  have q2 := row_sw2 (φ := List.reverse) e1 e2 s
  have q3 := bas3_sw (φ := List.reverse) s
  have nmem : ∀ (l : List X) (y : X), y ∈ l.map List.reverse → ∀ (P : X → Prop), (∀ z ∈ l, P z) → ∃ z, P z ∧ y = z.reverse := fun l y hy P hP => by
    obtain ⟨z, hz, rfl⟩ := List.mem_map.mp hy
    exact ⟨z, hP z hz, rfl⟩
  have nn : ∀ z : X, z ∉ bas3 s → z.reverse ∉ (bas3 s).map List.reverse := fun z hz hm => by
    obtain ⟨w, hw, e⟩ := List.mem_map.mp hm
    rw [rev_inj _ _ e] at hw
    exact hz hw
  have := merged_its n (s := s.map (It3.sw List.reverse)) (e1 := e2.map List.reverse) (e2 := e1.map List.reverse) (by rw [q3]; exact rw_rev hb) (by rw [q1]; exact rw_rev h2) (by rw [q2]; exact rw_rev h1)
    (by
      rw [q3]
      unfold List.Nodup at nd ⊢
      rw [List.pairwise_map]
      exact nd.imp fun {a b} h e => h (rev_inj _ _ e))
    (by
      rw [(frs_sw s e2).1, q3]
      intro y hy
      obtain ⟨z, hz, rfl⟩ := nmem _ y hy _ nf2
      exact nn z hz)
    (by
      rw [(frs_sw s e1).2, q3]
      intro y hy
      obtain ⟨z, hz, rfl⟩ := nmem _ y hy _ nf1
      exact nn z hz)
  rw [q1, q2, q3, merge_sw rev_inj] at this
  obtain ⟨a1, a2, a3, a4, a5⟩ := this
  exact ⟨a1, res_shown a2 a3 a4 a5⟩
end K34

set_option Elab.async false
set_option linter.all false
set_option maxRecDepth 2000
set_option maxHeartbeats 4000000
set_option exponentiation.threshold 3000
namespace K34
open PySem PySem.Spec PyProof.Rows L2 Em Mg
theorem wp_of_run {Φ : Fns} {pins : List Nat} {s : Sm} {ρ : Rho} {K : Fl → Rho → Prop} (R : Rho → Prop) (h : ∃ ρ', s.run Φ GG pins ρ = some (.nx, ρ') ∧ R ρ') (k : ∀ ρ', R ρ' → K .nx ρ') : WP (s.run Φ GG pins ρ) K := by
  obtain ⟨ρ', e, hR⟩ := h
  rw [e, wp_some]
  exact k ρ' hR
def I_base (k : Nat) (i : Nat) (us : List T) (ρ : Rho) : Prop := ∃ (p : T) (xs : List X), ρ = [some p, some (CntT 0), none, none, none, none, none, none, none, none, none, none, none, none, none, none, none] ∧ Pt (k + 99 * i) p ∧ us = xs.map (fun x => T.im (.str x)) ∧ xs.length = i ∧ ∀ j x, xs[j]? = some x → Frs (1000 + j) x
theorem base_ok {Φ : Fns} {p : T} {k : Nat} (hp : Pt k p) (hk : k < 700000000)
    (H18 : ∀ (p : T) (k : Nat) (d : D) (len : Nat) (items : Nat → D), Pt k p → k < 1000000000 → 0 < len → len ≤ 1000 → opLen (.im d) = some (len : Int) → (∀ j : Nat, j < len → opIxA (.im d) (.im (.int (j : Int))) = some (.im (items j))) → ∃ j p', j < len ∧ Φ 18 [p, .im d] = some (.im (items j), [p', .im d]) ∧ Pt (k + 1) p')
    (H21 : ∀ (p : T) (k m : Nat), Pt k p → k < 900000000 → m < 1936 → ∃ x p', Φ 21 [p, .im (.int (m : Int))] = some (.im (.str x), [p', .im (.int (m : Int))]) ∧ Frs m x ∧ Pt (k + 99) p') :
    ∃ (xs : List X) (p1 : T), Fx.evf Φ GG C__law_right_1 [some p, some (CntT 0), none, none, none, none, none, none, none, none, none, none, none, none, none, none, none] = some (.ls (xs.map fun x => T.im (.str x)), [some p1, some (CntT 0), none, none, none, none, none, none, none, none, none, none, none, none, none, none, none]) ∧ Pt (k + 4000) p1 ∧ xs.length ≤ 40 ∧ ∀ j x, xs[j]? = some x → Frs (1000 + j) x := by
  obtain ⟨j0, p0, hj0, e0, hp0⟩ := H18 p k (.lst [.int 0, .int 1, .int 3, .int 8, .int 40]) 5 (fun j => .int ([0, 1, 3, 8, 40].getD j 0)) hp (by omega) (by omega) (by omega) rfl (by
    intro j hj
    have : j = 0 ∨ j = 1 ∨ j = 2 ∨ j = 3 ∨ j = 4 := by omega
    rcases this with rfl | rfl | rfl | rfl | rfl <;> rfl)
  obtain ⟨L, hL, hL2⟩ : ∃ L : Nat, ([0, 1, 3, 8, 40] : List Int).getD j0 0 = (L : Int) ∧ L ≤ 40 := by
    have : j0 = 0 ∨ j0 = 1 ∨ j0 = 2 ∨ j0 = 3 ∨ j0 = 4 := by omega
    rcases this with rfl | rfl | rfl | rfl | rfl
    · exact ⟨0, rfl, by omega⟩
    · exact ⟨1, rfl, by omega⟩
    · exact ⟨3, rfl, by omega⟩
    · exact ⟨8, rfl, by omega⟩
    · exact ⟨40, rfl, by omega⟩
  rw [hL] at e0
  unfold C__law_right_1
  obtain ⟨ts, ρ5, e, p1, xs, rfl, h2, rfl, h3, h4⟩ := comp_inv (Φ := Φ) (G := GG) (vs := [3]) (tg := .nm 3) (f := .ex (.fr (.call 21 (.ref 0 (.fx (.ex (.op .add (.cons (.lit (.int 1000)) (.cons (.var 3) .nil)))) .nil)))))
    (it := .rng1 (.fr (.call 18 (.ref 0 (.fx (.ex (.fr (.disp (.cons (.lit (.int 0)) (.cons (.lit (.int 1)) (.cons (.lit (.int 3)) (.cons (.lit (.int 8)) (.cons (.lit (.int 40)) .nil)))))))) .nil)))))
    (ρ := [some p, some (CntT 0), none, none, none, none, none, none, none, none, none, none, none, none, none, none, none]) (ρ1 := [some p0, some (CntT 0), none, none, none, none, none, none, none, none, none, none, none, none, none, none, none]) (ds := (List.range L).map fun (i : Nat) => D.int (i : Int)) (I_base (k + 1))
    (evi1 (i := (L : Int)) (by
      have := evf_ref0 (Φ := Φ) (f := .ex (.fr (.disp (.cons (.lit (.int 0)) (.cons (.lit (.int 1)) (.cons (.lit (.int 3)) (.cons (.lit (.int 8)) (.cons (.lit (.int 40)) .nil)))))))) (ρ := [some (CntT 0), none, none, none, none, none, none, none, none, none, none, none, none, none, none, none]) hp (by simp <;> rfl) e0
      simp only [ev_fr, this]
      simp) (rng2_to rfl (by omega))) (by simp) (by simp; omega) ⟨p0, [], by simp, by simpa using hp0, rfl, rfl, fun j x hj => by simp at hj⟩ (by
      intro i d us ρ hd hI
      obtain ⟨p2, xs, rfl, h2, rfl, h3, h4⟩ := hI
      have hi : i < L := by
        have := (List.getElem?_eq_some_iff.mp hd).1
        simpa using this
      simp [hi] at hd
      subst hd
      obtain ⟨x, p3, e, hx, hp3⟩ := H21 p2 _ (1000 + i) h2 (by omega) (by omega)
      rw [Int.natCast_add] at e
      simp at e
      obtain ⟨a2, b2, i2, rfl, -⟩ := h2
      unfold PotT at e ⊢
      simp [e]
      refine ⟨p3, xs ++ [x], by simp, hp3.up (by omega), by simp, by simp [h3], fun j y hj => ?_⟩
      rcases Nat.lt_or_ge j xs.length with z | z
      · rw [List.getElem?_append_left z] at hj
        exact h4 j y hj
      · rw [List.getElem?_append_right z] at hj
        have : j - xs.length = 0 := by
          have := (List.getElem?_eq_some_iff.mp hj).1
          simp at this
          omega
        rw [this] at hj
        simp at hj
        rw [← hj, show j = i by omega]
        exact hx)
  rw [List.length_map, List.length_range] at h2 h3
  refine ⟨xs, p1, ?_, h2.up (by omega), by omega, h4⟩
  rw [e]
  simp
/-- the texts of a base are unlike -/
theorem base_nodup {xs : List X} (hl : xs.length ≤ 40) (h : ∀ j x, xs[j]? = some x → Frs (1000 + j) x) : xs.Nodup := by
  unfold List.Nodup
  rw [List.pairwise_iff_getElem]
  intro i j hi hj hij e
  have h1 := h i _ (List.getElem?_eq_getElem hi)
  have h2 := h j _ (List.getElem?_eq_getElem hj)
  rw [e] at h1
  have := frs_inj h1 h2 (by omega) (by omega)
  omega
theorem frs_its : ∀ (base : List X) (E : EdE), E.length = base.length + 1 → ∀ y ∈ Mg.frs (its base E) (fin base E), ∃ e ∈ E, y ∈ e.1
  | [], [x], _, y, hy => ⟨x, List.mem_cons_self, by simpa [Mg.frs, its, fin] using hy⟩
  | b :: bs, x :: E, h, y, hy => by
    have hy : y ∈ x.1 ++ Mg.frs (its bs E) (fin bs E) := by
      simpa [Mg.frs, its, fin] using hy
    rcases List.mem_append.mp hy with m | m
    · exact ⟨x, List.mem_cons_self, m⟩
    · obtain ⟨e, he, hm⟩ := frs_its bs E (by simpa using h) y m
      exact ⟨e, List.mem_cons_of_mem _ he, hm⟩
/-- an edit of such a base -/
structure EdFit (base : List X) (E : EdE) : Prop where
  len : E.length = base.length + 1
  one : ∀ e ∈ E, e.1.length ≤ 1 ∧ ∀ x ∈ e.1, Tx x
  rw_ : Rw (doneE base E)
  nf : ∀ y ∈ Mg.frs (its base E) (fin base E), y ∉ base
theorem edfit {base : List X} {E : EdE} {c : Nat} (hl : base.length ≤ 40) (hb : ∀ j x, base[j]? = some x → Frs (1000 + j) x) (h1 : E.length = base.length + 1) (h2 : lenE base.length E ≤ 40) (h3 : EdOk c E) (hc : c < 1000) : EdFit base E := by
  have tb : ∀ x ∈ base, Tx x := fun x hx => by
    obtain ⟨j, hj⟩ := List.mem_iff_getElem?.mp hx
    exact (hb j x hj).1
  have te : ∀ e ∈ E, e.1.length ≤ 1 ∧ ∀ x ∈ e.1, Tx x := fun e he => ⟨(h3 e he).1, fun x hx => by
    obtain ⟨m, _, hm⟩ := (h3 e he).2 x hx
    exact hm.1⟩
  refine ⟨h1, te, ⟨by rw [doneE_len]; exact h2, fun x hx => ?_⟩, fun y hy hm => ?_⟩
  · rw [doneE_row base E h1] at hx
    rcases row_sub _ _ x hx with m | m
    · rw [its_bas base E h1] at m
      exact tb x m
    · obtain ⟨e, he, hxe⟩ := frs_its base E h1 x m
      exact (te e he).2 x hxe
  · obtain ⟨e, he, hye⟩ := frs_its base E h1 y hy
    obtain ⟨m, hmc, hfm⟩ := (h3 e he).2 y hye
    obtain ⟨j, hj⟩ := List.mem_iff_getElem?.mp hm
    have hjl : j < base.length := (List.getElem?_eq_some_iff.mp hj).1
    have := frs_inj hfm (hb j y hj) (by omega) (by omega)
    omega
end K34

set_option Elab.async false
set_option linter.all false
set_option maxRecDepth 2000
set_option maxHeartbeats 8000000
set_option exponentiation.threshold 3000
namespace K34
open PySem PySem.Spec PyProof.Rows L2 Em Mg
/-- what the merges of such edits give -/
structure Outc (Φ : Fns) (base : List X) (E G : EdE) : Prop where
  due : Φ 24 [.im (rowL base), .im (.lst (E.map edD)), .im (.lst (G.map edD))] = some (.im (resD (mergeL (its3 base E G) (fin base E) (fin base G))), [.im (rowL base), .im (.lst (E.map edD)), .im (.lst (G.map edD))])
  told : Φ 15 [.im (rowD base), .im (rowD (doneE base E)), .im (rowD (doneE base G))] = some (.im (resD (mergeL (its3 base E G) (fin base E) (fin base G))), [.im (rowD base), .im (rowD (doneE base E)), .im (rowD (doneE base G))])
  last : Φ 15 [.im (rowD (base.map List.reverse)), .im (rowD ((doneE base G).map List.reverse)), .im (rowD ((doneE base E).map List.reverse))] = some (.im (resD ((mergeL (its3 base E G) (fin base E) (fin base G)).1.map List.reverse, (mergeL (its3 base E G) (fin base E) (fin base G)).2.map (clsw List.reverse))), [.im (rowD (base.map List.reverse)), .im (rowD ((doneE base G).map List.reverse)), .im (rowD ((doneE base E).map List.reverse))])
  sh1 : ∃ s, opShown (resD (mergeL (its3 base E G) (fin base E) (fin base G))) = some (.im (.str s))
  sh2 : ∃ s, opShown (resD ((mergeL (its3 base E G) (fin base E) (fin base G)).1.map List.reverse, (mergeL (its3 base E G) (fin base E) (fin base G)).2.map (clsw List.reverse))) = some (.im (.str s))
  tx : (∀ y ∈ (mergeL (its3 base E G) (fin base E) (fin base G)).1, Tx y) ∧ (∀ c ∈ (mergeL (its3 base E G) (fin base E) (fin base G)).2, ClOk c) ∧ (mergeL (its3 base E G) (fin base E) (fin base G)).1.length ≤ 80 ∧ (mergeL (its3 base E G) (fin base E) (fin base G)).2.length ≤ 41 ∧ ∀ k ∈ (mergeL (its3 base E G) (fin base E) (fin base G)).2, k.2.2.1.length + k.2.2.2.length ≤ 80
theorem clsum_mem {cl : List (Cl X)} {k : Cl X} (h : k ∈ cl) : k.2.2.1.length + k.2.2.2.length ≤ clsum cl := by
  induction cl with
  | nil => cases h
  | cons c cl ih =>
    have e : clsum (c :: cl) = c.2.2.1.length + c.2.2.2.length + clsum cl := by simp [clsum]
    rcases List.mem_cons.mp h with q | q
    · rw [q, e]; omega
    · have := ih q; omega
theorem outc (n : Nat) {base : List X} {E G : EdE} (hb : Rw base) (nd : base.Nodup) (h1 : EdFit base E) (h2 : EdFit base G) : Outc (F (n + 5)) base E G := by
  have e1 := its3_one base E G h1.len h2.len
  have e2 := its3_two base E G h1.len h2.len
  have e3 := its3_bas base E G h1.len h2.len
  have r1 := doneE_row base E h1.len
  have r2 := doneE_row base G h2.len
  have A := merged_its n (s := its3 base E G) (e1 := fin base E) (e2 := fin base G) (by rw [e3]; exact hb) (by rw [e1, ← r1]; exact h1.rw_) (by rw [e2, ← r2]; exact h2.rw_) (by rw [e3]; exact nd) (by rw [e1, e3]; exact h1.nf) (by rw [e2, e3]; exact h2.nf)
  have B := merged_rev n (s := its3 base E G) (e1 := fin base E) (e2 := fin base G) (by rw [e3]; exact hb) (by rw [e1, ← r1]; exact h1.rw_) (by rw [e2, ← r2]; exact h2.rw_) (by rw [e3]; exact nd) (by rw [e1, e3]; exact h1.nf) (by rw [e2, e3]; exact h2.nf)
  rw [e1, e2, e3, ← r1, ← r2] at A B
  obtain ⟨a1, a2, a3, a4, a5⟩ := A
  exact ⟨lmerged_ok (n + 4) h1.len h2.len hb h1.one h2.one, a1, B.1, res_shown a2 a3 a4 a5, B.2, a2, a3, by omega, a5, fun k hk => by
    have := clsum_mem hk
    omega⟩
theorem rev_evf {Φ : Fns} {vs : List Nat} {e : Ex} {ρ : Rho} {r : List X} (hv : vs = [10]) (he : e.ev Φ GG ρ = some (.im (rowD r), ρ) ∨ e.ev Φ GG ρ = some (.im (rowL r), ρ)) (hp : Em.plain [10] ρ = true) (hr : restore [10] ρ (wipeR ρ [10]) = ρ) (h10 : 10 < ρ.length) (hl : r.length ≤ 1000) (ht : ∀ x ∈ r, Tx x) :
    Fx.evf Φ GG (.comp vs (.nm 10) (.ex e) (.ex (.op .rev (.cons (.var 10) .nil)))) ρ = some (.ls (r.map fun x => .im (.str x.reverse)), ρ) := by
  subst hv
  refine compm_ok (xs := r) (hh := D.str) _ ?_ hp (by omega) ?_ hr
  · rcases he with he | he
    · simp only [evi_ex, he]; rfl
    · simp only [evi_ex, he]; rfl
  · intro x hx
    have := (ht x hx).1
    have hrv : opRev (.im (.str x)) = some (.im (.str x.reverse)) := by
      show (if x.length ≤ LIM then _ else _) = _
      rw [if_pos (by rw [lim_eq]; omega)]
    simp [h10, hrv]
theorem w_right {p : T} {k : Nat} (hp : Pt k p) (hk : k < 700000000) (Φ : Fns)
    (H17 : ∀ (p : T) (k : Nat) (u : Int), Pt k p → k < 1000000000 → 0 < u → u ≤ 1000000000 → ∃ d p', Φ 17 [p, .im (.int u)] = some (.im (.int d), [p', .im (.int u)]) ∧ 0 ≤ d ∧ d < u ∧ Pt (k + 1) p')
    (H18 : ∀ (p : T) (k : Nat) (d : D) (len : Nat) (items : Nat → D), Pt k p → k < 1000000000 → 0 < len → len ≤ 1000 → opLen (.im d) = some (len : Int) → (∀ j : Nat, j < len → opIxA (.im d) (.im (.int (j : Int))) = some (.im (items j))) → ∃ j p', j < len ∧ Φ 18 [p, .im d] = some (.im (items j), [p', .im d]) ∧ Pt (k + 1) p')
    (H21 : ∀ (p : T) (k m : Nat), Pt k p → k < 900000000 → m < 1936 → ∃ x p', Φ 21 [p, .im (.int (m : Int))] = some (.im (.str x), [p', .im (.int (m : Int))]) ∧ Frs m x ∧ Pt (k + 99) p')
    (H22 : ∀ (p : T) (k c : Nat) (base : List X), Pt k p → k < 800000000 → base.length ≤ 40 → c ≤ 900 → ∃ (E : EdE) (p' : T) (c' : Nat), Φ 22 [p, .im (rowL base), CntT c] = some (.im (.lst (E.map edD)), [p', .im (rowL base), CntT c']) ∧ E.length = base.length + 1 ∧ lenE base.length E ≤ 40 ∧ EdOk c' E ∧ Pt (k + 4100) p' ∧ c ≤ c' ∧ c' ≤ c + 41)
    (H23 : ∀ (base : List X) (E : EdE), E.length = base.length + 1 → base.length ≤ 40 → (∀ e ∈ E, e.1.length ≤ 1) → Φ 23 [.im (rowL base), .im (.lst (E.map edD))] = some (.im (rowL (doneE base E)), [.im (rowL base), .im (.lst (E.map edD))]))
    (H26 : ∀ (base : List X) (E : EdE), Rw base → base.Nodup → EdFit base E → Φ 26 [.im (rowL base), .im (.lst (E.map edD)), .im (rowL (doneE base E))] = some (.im (.bl true), [.im (rowL base), .im (.lst (E.map edD)), .im (rowL (doneE base E))]))
    (HO : ∀ (base : List X) (E G : EdE), Rw base → base.Nodup → EdFit base E → EdFit base G → Outc Φ base E G) :
    WP (f__law_right.body.runs Φ GG [0] [some p, none, none, none, none, none, none, none, none, none, none, none, none, none, none, none, none]) (Ret [p] fun t us => ∃ p', t = .im (.bl true) ∧ us = [p'] ∧ Pt (k + 20000) p') := by
  unfold f__law_right
  rw [wp_cons]
  simp
  rw [wp_cons]
  obtain ⟨xs, p1, c1, hp1, hxl, hxs⟩ := base_ok (Φ := Φ) hp hk H18 H21
  have c1' : Fx.evf Φ GG C__law_right_1 [some p, some (.ls [.im (.int 0)]), none, none, none, none, none, none, none, none, none, none, none, none, none, none, none] = some (.ls (xs.map fun x => T.im (.str x)), [some p1, some (CntT 0), none, none, none, none, none, none, none, none, none, none, none, none, none, none, none]) := c1
  have hb : Rw xs := ⟨hxl, fun x hx => by
    obtain ⟨j, hj⟩ := List.mem_iff_getElem?.mp hx
    exact (hxs j x hj).1⟩
  have nd := base_nodup hxl hxs
  simp [c1']
  rw [wp_cons]
  obtain ⟨E, p2, cE, e22, hE1, hE2, hE3, hp2, hcE, hcE2⟩ := H22 p1 _ 0 xs hp1 (by omega) hxl (by omega)
  have hE : EdFit xs E := edfit hxl hxs hE1 hE2 hE3 (by omega)
  have hp2' := hp2
  obtain ⟨a1, b1, i1, rfl, -⟩ := hp1
  obtain ⟨a2, b2, i2, rfl, -⟩ := hp2
  have vw : (T.ls (xs.map fun x => T.im (.str x))).view = rowL xs := by unfold rowL; simp [Function.comp_def]
  have e22' : Φ 22 [PotT a1 b1 i1, .im (rowL xs), .ls [.im (.int 0)]] = some (.im (.lst (E.map edD)), [PotT a2 b2 i2, .im (rowL xs), CntT cE]) := e22
  unfold PotT at e22'
  unfold PotT CntT
  have rl : D.lst (xs.map fun x => D.str x) = rowL xs := rfl
  simp [Function.comp_def]
  rw [rl]
  simp [e22']
  rw [wp_cons]
  -- the other edit
  refine wp_of_run (fun ρ => ∃ (G : EdE) (p3 : T) (c : T), EdFit xs G ∧ Pt (k + 13000) p3 ∧ ρ = [some p3, some c, some (.im (rowL xs)), none, some (.im (.lst (E.map edD))), some (.im (.lst (G.map edD))), none, none, none, none, none, none, none, none, none, none, none]) ?_ ?_
  · obtain ⟨d, p3, e17, hd0, hd5, hp3⟩ := H17 _ _ 5 hp2' (by omega) (by omega) (by omega)
    have hp3' := hp3
    obtain ⟨a3, b3, i3, rfl, -⟩ := hp3
    unfold PotT at e17
    by_cases hd : d = 0
    · subst hd
      refine ⟨[some (PotT a3 b3 i3), some (CntT cE), some (.im (rowL xs)), none, some (.im (.lst (E.map edD))), some (.im (.lst (E.map edD))), none, none, none, none, none, none, none, none, none, none, none], ?_, E, PotT a3 b3 i3, CntT cE, hE, hp3'.up (by omega), rfl⟩
      unfold PotT CntT
      simp [e17]
    · obtain ⟨G, p4, cG, e23, hG1, hG2, hG3, hp4, hcG, hcG2⟩ := H22 _ _ cE xs hp3' (by omega) hxl (by omega)
      have hG : EdFit xs G := edfit hxl hxs hG1 hG2 hG3 (by omega)
      have hp4' := hp4
      obtain ⟨a4, b4, i4, rfl, -⟩ := hp4
      refine ⟨[some (PotT a4 b4 i4), some (CntT cG), some (.im (rowL xs)), none, some (.im (.lst (E.map edD))), some (.im (.lst (G.map edD))), none, none, none, none, none, none, none, none, none, none, none], ?_, G, PotT a4 b4 i4, CntT cG, hG, hp4'.up (by omega), rfl⟩
      unfold PotT CntT at e23
      unfold PotT CntT
      simp [e17, hd, e23]
  rintro ρ ⟨G, p3, c, hG, hp3, rfl⟩
  obtain ⟨due, told, last, ⟨s1, sh1⟩, ⟨s2, sh2⟩, tx1, tx2, tx3, tx4, tx5⟩ := HO xs E G hb nd hE hG
  have h26a := H26 xs E hb nd hE
  have h26b := H26 xs G hb nd hG
  have h23a := H23 xs E hE.len hxl fun e he => (hE.one e he).1
  have h23b := H23 xs G hG.len hxl fun e he => (hG.one e he).1
  generalize mergeL (its3 xs E G) (fin xs E) (fin xs G) = M at due told last sh1 sh2 tx1 tx2 tx3 tx4 tx5
  have rE := hE.rw_
  have rG := hG.rw_
  generalize doneE xs E = A at h26a h23a told last rE
  generalize doneE xs G = B at h26b h23b told last rG
  have tp : ∀ r : List X, opTuple (.im (rowL r)) = some (.im (rowD r)) := fun _ => rfl
  have z20 : ∀ x y : D, atI [x, y] 0 = some x := fun _ _ => rfl
  have z21 : ∀ x y : D, atI [x, y] 1 = some y := fun _ _ => rfl
  rw [kon_nx, wp_cons]
  simp [h23a, h23b]
  rw [wp_cons]
  refine wp_ite ?_
  simp [z20, z21, h26a, h26b]
  rw [wp_cons]
  simp [due, told, tp, z20, z21]
  rw [wp_cons]
  refine wp_ite ?_
  simp [sh1]
  rw [wp_cons]
  have txa : ∀ r ∈ [xs, A, B], r.length ≤ 1000 ∧ ∀ x ∈ r, Tx x := by
    intro r hr
    simp only [List.mem_cons, List.not_mem_nil, or_false] at hr
    have := hb.1
    have := rE.1
    have := rG.1
    rcases hr with rfl | rfl | rfl
    · exact ⟨by omega, hb.2⟩
    · exact ⟨by omega, rE.2⟩
    · exact ⟨by omega, rG.2⟩
  have c3 : Fx.evf Φ GG C__law_right_3 [some p3, some c, some (.im (rowL xs)), none, some (.im (.lst (E.map edD))), some (.im (.lst (G.map edD))), some (.im (.lst [rowL A, rowL B])), some (.im (resD M)), some (.im (resD M)), none, none, none, none, none, none, none, none] = some (.ls ([xs, A, B].map fun r => .im (rowD (r.map List.reverse))), [some p3, some c, some (.im (rowL xs)), none, some (.im (.lst (E.map edD))), some (.im (.lst (G.map edD))), some (.im (.lst [rowL A, rowL B])), some (.im (resD M)), some (.im (resD M)), none, none, none, none, none, none, none, none]) := by
    unfold C__law_right_3
    refine compm_ok (xs := [xs, A, B]) (hh := rowL) (fun r => .im (rowD (r.map List.reverse))) (by simp) (by simp) (by simp) ?_ (by simp)
    intro r hr
    obtain ⟨h1, h2⟩ := txa r hr
    have c2 : Fx.evf Φ GG C__law_right_2 [some p3, some c, some (.im (rowL xs)), none, some (.im (.lst (E.map edD))), some (.im (.lst (G.map edD))), some (.im (.lst [rowL A, rowL B])), some (.im (resD M)), some (.im (resD M)), none, none, some (.im (rowL r)), none, none, none, none, none] = some (.ls (r.map fun x => .im (.str x.reverse)), [some p3, some c, some (.im (rowL xs)), none, some (.im (.lst (E.map edD))), some (.im (.lst (G.map edD))), some (.im (.lst [rowL A, rowL B])), some (.im (resD M)), some (.im (resD M)), none, none, some (.im (rowL r)), none, none, none, none, none]) := by
      unfold C__law_right_2
      exact rev_evf rfl (.inr (by simp)) (by simp) (by simp) (by simp) h1 h2
    simp [c2, rowD, Function.comp_def]
  have z30 : ∀ x y z : T, atI [x, y, z] 0 = some x := fun _ _ _ => rfl
  have z31 : ∀ x y z : T, atI [x, y, z] 1 = some y := fun _ _ _ => rfl
  have z32 : ∀ x y z : T, atI [x, y, z] 2 = some z := fun _ _ _ => rfl
  simp [c3]
  rw [wp_cons]
  simp [z30, z31, z32, last]
  rw [wp_cons]
  refine wp_ite ?_
  have hp3' := hp3
  obtain ⟨a3, b3, i3, rfl, -⟩ := hp3
  obtain ⟨a0, b0, i0, rfl, -⟩ := hp
  obtain ⟨rw', cl⟩ := M
  simp only at tx1 tx2 tx3 tx4 tx5 sh1 sh2 last
  by_cases hcl : cl = []
  · subst hcl
    have m1 : resD (rw', []) = .tup [.str [109, 101, 114, 103, 101, 100], rowD rw'] := rfl
    have m2 : resD (List.map List.reverse (rw', ([] : List (Cl X))).1, List.map (clsw List.reverse) (rw', ([] : List (Cl X))).2) = .tup [.str [109, 101, 114, 103, 101, 100], rowD (rw'.map List.reverse)] := rfl
    have m3 : resD (List.map List.reverse rw', List.map (clsw List.reverse) ([] : List (Cl X))) = .tup [.str [109, 101, 114, 103, 101, 100], rowD (rw'.map List.reverse)] := rfl
    rw [m3] at sh2
    have y0 : ∀ z : D, atI [D.str [109, 101, 114, 103, 101, 100], z] 0 = some (.str [109, 101, 114, 103, 101, 100]) := fun _ => rfl
    have y1 : ∀ z : D, atI [D.str [109, 101, 114, 103, 101, 100], z] 1 = some z := fun _ => rfl
    have c4 : Fx.evf Φ GG C__law_right_4 [some (PotT a3 b3 i3), some c, some (.im (rowL xs)), none, some (.im (.lst (E.map edD))), some (.im (.lst (G.map edD))), some (.im (.lst [rowL A, rowL B])), some (.im (.tup [.str [109, 101, 114, 103, 101, 100], rowD rw'])), some (.im (.tup [.str [109, 101, 114, 103, 101, 100], rowD rw'])), some (.ls [.im (rowD (xs.map List.reverse)), .im (rowD (A.map List.reverse)), .im (rowD (B.map List.reverse))]), none, none, some (.im (.tup [.str [109, 101, 114, 103, 101, 100], rowD (rw'.map List.reverse)])), none, none, none, none] = some (.ls (rw'.map fun x => .im (.str x.reverse)), [some (PotT a3 b3 i3), some c, some (.im (rowL xs)), none, some (.im (.lst (E.map edD))), some (.im (.lst (G.map edD))), some (.im (.lst [rowL A, rowL B])), some (.im (.tup [.str [109, 101, 114, 103, 101, 100], rowD rw'])), some (.im (.tup [.str [109, 101, 114, 103, 101, 100], rowD rw'])), some (.ls [.im (rowD (xs.map List.reverse)), .im (rowD (A.map List.reverse)), .im (rowD (B.map List.reverse))]), none, none, some (.im (.tup [.str [109, 101, 114, 103, 101, 100], rowD (rw'.map List.reverse)])), none, none, none, none]) := by
      unfold C__law_right_4
      exact rev_evf rfl (.inl (by simp [y1])) (by simp) (by simp) (by simp) (by omega) tx1
    have tp4 : opTuple (.im (.lst (rw'.map fun x => .str x.reverse))) = some (.im (rowD (rw'.map List.reverse))) := by
      unfold rowD; simp [Function.comp_def]
    rw [m1, m2]
    simp [y0]
    rw [wp_cons]
    simp [c4, Function.comp_def, tp4, sh2]
    unfold PotT
    simp
    exact hp3'.up (by omega)
  · have m1 : resD (rw', cl) = .tup [.str [99, 108, 97, 115, 104], .tup (cl.map clD)] := by
      unfold resD; rw [if_neg hcl]; rfl
    have m3 : resD (List.map List.reverse rw', List.map (clsw List.reverse) cl) = .tup [.str [99, 108, 97, 115, 104], .tup ((cl.map (clsw List.reverse)).map clD)] := by
      unfold resD; rw [if_neg (by simpa using hcl)]; rfl
    rw [m3] at sh2
    have y0 : ∀ z : D, atI [D.str [99, 108, 97, 115, 104], z] 0 = some (.str [99, 108, 97, 115, 104]) := fun _ => rfl
    have y1 : ∀ z : D, atI [D.str [99, 108, 97, 115, 104], z] 1 = some z := fun _ => rfl
    have c7 : ∀ l : D, Fx.evf Φ GG C__law_right_7 [some (PotT a3 b3 i3), some c, some (.im (rowL xs)), none, some (.im (.lst (E.map edD))), some (.im (.lst (G.map edD))), some (.im (.lst [rowL A, rowL B])), some (.im (.tup [.str [99, 108, 97, 115, 104], .tup (cl.map clD)])), some (.im (.tup [.str [99, 108, 97, 115, 104], .tup (cl.map clD)])), some (.ls [.im (rowD (xs.map List.reverse)), .im (rowD (A.map List.reverse)), .im (rowD (B.map List.reverse))]), none, none, some (.im l), none, none, none, none] = some (.ls (cl.map fun k => .im (.tup [.int (k.1 : Int), .int (k.2.1 : Int), .lst [rowL (k.2.2.2.map List.reverse), rowL (k.2.2.1.map List.reverse)]])), [some (PotT a3 b3 i3), some c, some (.im (rowL xs)), none, some (.im (.lst (E.map edD))), some (.im (.lst (G.map edD))), some (.im (.lst [rowL A, rowL B])), some (.im (.tup [.str [99, 108, 97, 115, 104], .tup (cl.map clD)])), some (.im (.tup [.str [99, 108, 97, 115, 104], .tup (cl.map clD)])), some (.ls [.im (rowD (xs.map List.reverse)), .im (rowD (A.map List.reverse)), .im (rowD (B.map List.reverse))]), none, none, some (.im l), none, none, none, none]) := by
      intro l
      unfold C__law_right_7
      refine compm_ok (xs := cl) (hh := clD) (fun k => .im (.tup [.int (k.1 : Int), .int (k.2.1 : Int), .lst [rowL (k.2.2.2.map List.reverse), rowL (k.2.2.1.map List.reverse)]])) (by simp [y1]) (by simp) (by omega) ?_ (by simp)
      intro k hk
      obtain ⟨t1, t2, t3, t4⟩ := tx2 k hk
      have k0 : opIxA (.im (clD k)) (.im (.int 0)) = some (.im (.int (k.1 : Int))) := rfl
      have k1 : opIxA (.im (clD k)) (.im (.int 1)) = some (.im (.int (k.2.1 : Int))) := rfl
      have k2 : opIxA (.im (clD k)) (.im (.int 2)) = some (.im (rowD k.2.2.1)) := rfl
      have k3 : opIxA (.im (clD k)) (.im (.int 3)) = some (.im (rowD k.2.2.2)) := rfl
      have sz : k.2.2.1.length ≤ 1000 ∧ k.2.2.2.length ≤ 1000 := by
        have := tx5 k hk
        omega
      have c5 : Fx.evf Φ GG C__law_right_5 [some (PotT a3 b3 i3), some c, some (.im (rowL xs)), none, some (.im (.lst (E.map edD))), some (.im (.lst (G.map edD))), some (.im (.lst [rowL A, rowL B])), some (.im (.tup [.str [99, 108, 97, 115, 104], .tup (cl.map clD)])), some (.im (.tup [.str [99, 108, 97, 115, 104], .tup (cl.map clD)])), some (.ls [.im (rowD (xs.map List.reverse)), .im (rowD (A.map List.reverse)), .im (rowD (B.map List.reverse))]), none, some (.im (clD k)), some (.im l), none, none, none, none] = some (.ls (k.2.2.2.map fun x => .im (.str x.reverse)), [some (PotT a3 b3 i3), some c, some (.im (rowL xs)), none, some (.im (.lst (E.map edD))), some (.im (.lst (G.map edD))), some (.im (.lst [rowL A, rowL B])), some (.im (.tup [.str [99, 108, 97, 115, 104], .tup (cl.map clD)])), some (.im (.tup [.str [99, 108, 97, 115, 104], .tup (cl.map clD)])), some (.ls [.im (rowD (xs.map List.reverse)), .im (rowD (A.map List.reverse)), .im (rowD (B.map List.reverse))]), none, some (.im (clD k)), some (.im l), none, none, none, none]) := by
        unfold C__law_right_5
        exact rev_evf rfl (.inl (by simp [k3])) (by simp) (by simp) (by simp) sz.2 t2
      have c6 : Fx.evf Φ GG C__law_right_6 [some (PotT a3 b3 i3), some c, some (.im (rowL xs)), none, some (.im (.lst (E.map edD))), some (.im (.lst (G.map edD))), some (.im (.lst [rowL A, rowL B])), some (.im (.tup [.str [99, 108, 97, 115, 104], .tup (cl.map clD)])), some (.im (.tup [.str [99, 108, 97, 115, 104], .tup (cl.map clD)])), some (.ls [.im (rowD (xs.map List.reverse)), .im (rowD (A.map List.reverse)), .im (rowD (B.map List.reverse))]), none, some (.im (clD k)), some (.im l), none, none, none, none] = some (.ls (k.2.2.1.map fun x => .im (.str x.reverse)), [some (PotT a3 b3 i3), some c, some (.im (rowL xs)), none, some (.im (.lst (E.map edD))), some (.im (.lst (G.map edD))), some (.im (.lst [rowL A, rowL B])), some (.im (.tup [.str [99, 108, 97, 115, 104], .tup (cl.map clD)])), some (.im (.tup [.str [99, 108, 97, 115, 104], .tup (cl.map clD)])), some (.ls [.im (rowD (xs.map List.reverse)), .im (rowD (A.map List.reverse)), .im (rowD (B.map List.reverse))]), none, some (.im (clD k)), some (.im l), none, none, none, none]) := by
        unfold C__law_right_6
        exact rev_evf rfl (.inl (by simp [k2])) (by simp) (by simp) (by simp) sz.1 t1
      simp [k0, k1, c5, c6]
      simp [rowL, Function.comp_def]
    have c8 : ∀ l : D, Fx.evf Φ GG C__law_right_8 [some (PotT a3 b3 i3), some c, some (.im (rowL xs)), none, some (.im (.lst (E.map edD))), some (.im (.lst (G.map edD))), some (.im (.lst [rowL A, rowL B])), some (.im (.tup [.str [99, 108, 97, 115, 104], .tup (cl.map clD)])), some (.im (.tup [.str [99, 108, 97, 115, 104], .tup (cl.map clD)])), some (.ls [.im (rowD (xs.map List.reverse)), .im (rowD (A.map List.reverse)), .im (rowD (B.map List.reverse))]), none, none, some (.im l), some (.ls (cl.map fun k => .im (.tup [.int (k.1 : Int), .int (k.2.1 : Int), .lst [rowL (k.2.2.2.map List.reverse), rowL (k.2.2.1.map List.reverse)]]))), none, none, none] = some (.ls (cl.map fun k => .im (clD (clsw List.reverse k))), [some (PotT a3 b3 i3), some c, some (.im (rowL xs)), none, some (.im (.lst (E.map edD))), some (.im (.lst (G.map edD))), some (.im (.lst [rowL A, rowL B])), some (.im (.tup [.str [99, 108, 97, 115, 104], .tup (cl.map clD)])), some (.im (.tup [.str [99, 108, 97, 115, 104], .tup (cl.map clD)])), some (.ls [.im (rowD (xs.map List.reverse)), .im (rowD (A.map List.reverse)), .im (rowD (B.map List.reverse))]), none, none, some (.im l), some (.im (.lst (cl.map fun k => D.tup [.int (k.1 : Int), .int (k.2.1 : Int), .lst [rowL (k.2.2.2.map List.reverse), rowL (k.2.2.1.map List.reverse)]]))), none, none, none]) := by
      intro l
      unfold C__law_right_8
      refine compm_ok (xs := cl) (hh := fun k => D.tup [.int (k.1 : Int), .int (k.2.1 : Int), .lst [rowL (k.2.2.2.map List.reverse), rowL (k.2.2.1.map List.reverse)]]) (fun k => .im (clD (clsw List.reverse k))) (by simp [Function.comp_def]) (by simp) (by omega) ?_ (by simp)
      intro k hk
      have w0 : ∀ x y : List X, atI [rowL x, rowL y] 0 = some (rowL x) := fun _ _ => rfl
      have w1 : ∀ x y : List X, atI [rowL x, rowL y] 1 = some (rowL y) := fun _ _ => rfl
      simp [w0, w1, tp, clD, clsw]
    rw [m1, m3]
    simp [y0]
    rw [wp_cons]
    simp [c7]
    rw [wp_cons]
    simp only [List.map_map, Function.comp_def] at sh2
    simp [c8, Function.comp_def, sh2]
    unfold PotT
    simp
    exact hp3'.up (by omega)
end K34

set_option Elab.async false
set_option linter.all false
set_option maxRecDepth 2000
set_option maxHeartbeats 8000000
set_option exponentiation.threshold 3000
namespace K34
open PySem PySem.Spec PyProof.Rows L2 Em Mg
theorem right_ok (n : Nat) {p : T} {k : Nat} (hp : Pt k p) (hk : k < 700000000) : ∃ p', F (n + 6) 27 [p] = some (.im (.bl true), [p']) ∧ Pt (k + 20000) p' := by
  have hpin : ([p] : List T).length = f__law_right.params ∧ f__law_right.params ≤ f__law_right.slots ∧ pinned f__law_right.pins 0 [p] = true := by
    obtain ⟨a, b, i, rfl, _⟩ := hp
    exact ⟨rfl, by decide, rfl⟩
  obtain ⟨t, us, e, p', rfl, rfl, h⟩ := FP (n := n + 5) (g := 27) (fd := f__law_right) rfl hpin rfl rfl rfl (w_right hp hk _ (fun p k u hp hk hu hu2 => take_ok (n + 4) hp hk hu hu2)
    (fun p k d len items hp hk hl hl2 h1 h2 => of_ok (n + 3) hp hk hl hl2 items h1 h2) (fun p k m hp hk hm => fresh_ok (n + 2) hp hk hm) (fun p k c base hp hk hb hc => edit_ok (n + 1) hp hk hb hc)
    (fun base E hE hb hl => done_ok (n + 4) hE hb hl) (fun base E hb nd hE => way_right_ok n hE.len hb hE.rw_ hE.one nd hE.nf) (fun base E G hb nd h1 h2 => outc n hb nd h1 h2))
  exact ⟨p', e, h⟩
theorem pot_ok (n : Nat) {is : List Int} {pl : Int} (h0 : 0 ≤ pl) (h1 : pl ≤ 1) (hl : is.length ≤ 63) : ∃ p, F (n + 1) 16 [.im (.lst (is.map D.int)), .im (.int pl)] = some (p, [.im (.lst (is.map D.int)), .im (.int pl)]) ∧ Pt 0 p := by
  have : ∀ Φ : Fns, WP (f__law_pot.body.runs Φ GG [] [some (.im (.lst (is.map D.int))), some (.im (.int pl)), none, none, none]) (Ret [.im (.lst (is.map D.int)), .im (.int pl)] fun t us => us = [.im (.lst (is.map D.int)), .im (.int pl)] ∧ Pt 0 t) := by
    intro Φ
    unfold f__law_pot
    rw [wp_cons]
    refine wp_of_run (fun ρ => ∃ c : Int, ρ = [some (.im (.lst (is.map D.int))), some (.im (.int pl)), some (.im (.int c)), none, none]) ?_ ?_
    · by_cases c : pl < is.length
      · obtain ⟨j, rfl⟩ : ∃ j : Nat, pl = (j : Int) := ⟨pl.toNat, by omega⟩
        obtain ⟨x, hx⟩ : ∃ x, is[j]? = some x := ⟨_, List.getElem?_eq_getElem (by omega)⟩
        have ix : atI (is.map D.int) (j : Int) = some (.int x) := by
          rw [Em.atI_nat (by simp; omega), List.getElem?_map, hx]; rfl
        refine ⟨[some (.im (.lst (is.map D.int))), some (.im (.int (j : Int))), some (.im (.int x)), none, none], ?_, x, rfl⟩
        simp [show j < is.length by omega, ix]
      · have s1 : opSl (.im (.lst (is.map D.int))) none (some 1) = some (.im (.lst ((is.take 1).map D.int))) := by
          rw [opSl_lst (by simp; omega)]
          unfold cutA
          rw [show (1 : Int) = ((1 : Nat) : Int) from rfl, HT.sIx_nat, HT.sIx_none]
          simp
        have m1 : opMul (.im (.int 21269)) (.im (.int pl)) = some (.im (.int (21269 * pl))) := opMul_of (lt_big (m := 20) (by decide) (by decide)) (lt_big (m := 20) (by omega) (by decide))
        refine ⟨[some (.im (.lst (is.map D.int))), some (.im (.int pl)), some (.im (.int ((is.take 1).sum % 1000003 + 21269 * pl + 2503))), none, none], ?_, _, rfl⟩
        have s2 : D.ints ((is.map D.int).take 1) = some (is.take 1) := by rw [← List.map_take]; exact ints_map'
        simp [c, s1, s2, m1]
    rintro ρ ⟨c, rfl⟩
    rw [kon_nx, wp_cons]
    generalize hx : (if c < 0 then -c else c) % 1000000000000000000000000000000000000000000000000000000000000000000000000000000000000000000000000000000000000000000000000000000000000000000000000000000000000000000000000000000000000000000000000000000000000000000000000000000000000000000000000000000000000000000000000000000000000000000000000000000000000 = x
    have hx0 : 0 ≤ x := by rw [← hx]; exact Int.emod_nonneg _ (by decide)
    have hx1 : x < 1000000000000000000000000000000000000000000000000000000000000000000000000000000000000000000000000000000000000000000000000000000000000000000000000000000000000000000000000000000000000000000000000000000000000000000000000000000000000000000000000000000000000000000000000000000000000000000000000000000000000 := by rw [← hx]; exact Int.emod_lt_of_pos _ (by decide)
    have hx2 : x.natAbs < 2 ^ 1000 := by
      have : x.natAbs < 1000000000000000000000000000000000000000000000000000000000000000000000000000000000000000000000000000000000000000000000000000000000000000000000000000000000000000000000000000000000000000000000000000000000000000000000000000000000000000000000000000000000000000000000000000000000000000000000000000000000000 := by omega
      exact Nat.lt_trans this (by decide)
    generalize he : (if 1000000000000000000 ≤ (if c < 0 then -c else c) then (1 : Int) else 0) = e
    have he1 : e = 0 ∨ e = 1 := by
      rw [← he]
      by_cases q : 1000000000000000000 ≤ (if c < 0 then -c else c)
      · rw [if_pos q]; exact .inr rfl
      · rw [if_neg q]; exact .inl rfl
    have m1 : opMul (.im (.int x)) (.im (.int e)) = some (.im (.int (x * e))) := opMul_of hx2 (lt_big (m := 4) (by omega) (by decide))
    have hy0 : 0 ≤ x * e := by rcases he1 with h | h <;> rw [h] <;> omega
    have hy2 : (x * e).natAbs < 2 ^ 1000 := by
      rcases he1 with h | h
      · rw [h, Int.mul_zero]; decide
      · rw [h, Int.mul_one]; exact hx2
    simp [hx, he, m1]
    rw [wp_cons]
    generalize hs : c % 2305843009213693951 = sm
    have hs0 : 0 ≤ sm := by rw [← hs]; exact Int.emod_nonneg _ (by decide)
    have hs1 : sm < 2305843009213693951 := by rw [← hs]; exact Int.emod_lt_of_pos _ (by decide)
    simp [hs]
    rw [wp_cons]
    have m2 : opMul (.im (.int sm)) (.im (.int 165139)) = some (.im (.int (sm * 165139))) := opMul_of (lt_big (m := 70) (by omega) (by decide)) (lt_big (m := 20) (by decide) (by decide))
    have m3 : opMul (.im (.int 24741)) (.im (.int pl)) = some (.im (.int (24741 * pl))) := opMul_of (lt_big (m := 20) (by decide) (by decide)) (lt_big (m := 20) (by omega) (by decide))
    have m4 : opMul (.im (.int (24741 * pl))) (.im (.int pl)) = some (.im (.int (24741 * pl * pl))) := opMul_of (lt_big (m := 30) (by omega) (by decide)) (lt_big (m := 20) (by omega) (by decide))
    generalize hb : (sm * 165139 + 24741 * pl * pl + 1439) % 2305843009213693921 = b
    have hb0 : 0 ≤ b := by rw [← hb]; exact Int.emod_nonneg _ (by decide)
    have hb1 : b < 2305843009213693921 := by rw [← hb]; exact Int.emod_lt_of_pos _ (by decide)
    simp [m2, m3, m4, hb]
    exact ⟨x * e, b, 0, rfl, hy0, hy2, hb0, by omega, by omega, by omega⟩
  obtain ⟨t, us, e, rfl, h⟩ := FP (n := n) (g := 16) (args := [.im (.lst (is.map D.int)), .im (.int pl)]) (fd := f__law_pot) rfl ⟨rfl, by decide, rfl⟩ rfl rfl rfl (this _)
  exact ⟨t, e, h⟩
theorem places_ok (n : Nat) {is : List Int} (hl : is.length ≤ 63) : ∃ m : Nat, m ≤ 2 ∧ F (n + 1) 19 [.im (.lst (is.map D.int)), .im (.int 2)] = some (.im (.lst ((List.range m).map fun (i : Nat) => D.int (i : Int))), [.im (.lst (is.map D.int)), .im (.int 2)]) := by
  have : ∀ Φ : Fns, WP (f__law_places.body.runs Φ GG [] [some (.im (.lst (is.map D.int))), some (.im (.int 2))]) (Ret [.im (.lst (is.map D.int)), .im (.int 2)] fun t us => us = [.im (.lst (is.map D.int)), .im (.int 2)] ∧ ∃ m : Nat, m ≤ 2 ∧ t = .im (.lst ((List.range m).map fun (i : Nat) => D.int (i : Int)))) := by
    intro Φ
    unfold f__law_places
    rw [wp_cons]
    generalize hx : (if 1 < (if (is.length : Int) < 2 then (is.length : Int) else 2) then (if (is.length : Int) < 2 then (is.length : Int) else 2) else 1) = x
    have hx1 : 1 ≤ x ∧ x ≤ 2 := by
      rw [← hx]
      split <;> split <;> omega
    simp [hx, show -1000000 ≤ x by omega, show x ≤ 1000000 by omega]
    exact ⟨x.toNat, by omega, rfl⟩
  obtain ⟨t, us, e, rfl, m, hm, rfl⟩ := FP (n := n) (g := 19) (args := [.im (.lst (is.map D.int)), .im (.int 2)]) (fd := f__law_places) rfl ⟨rfl, by decide, rfl⟩ rfl rfl rfl (this _)
  exact ⟨m, hm, e⟩
def I_law (is : List Int) (pl : Int) (i : Nat) (us : List T) (ρ : Rho) : Prop := ∃ p : T, ρ = [some (.im (.lst (is.map D.int))), some (.im (.int pl)), some p, none] ∧ Pt (20000 * i) p ∧ us = (List.range i).map (fun _ => T.im (.bl true))
def I_laws (is : List Int) (i : Nat) (ρ : Rho) : Prop := ∃ g1 g2, ρ = [some (.im (.lst (is.map D.int))), g1, g2, none]
theorem w_law {is : List Int} (hl : is.length ≤ 63) (Φ : Fns)
    (H16 : ∀ pl : Int, 0 ≤ pl → pl ≤ 1 → ∃ p, Φ 16 [.im (.lst (is.map D.int)), .im (.int pl)] = some (p, [.im (.lst (is.map D.int)), .im (.int pl)]) ∧ Pt 0 p)
    (H19 : ∃ m : Nat, m ≤ 2 ∧ Φ 19 [.im (.lst (is.map D.int)), .im (.int 2)] = some (.im (.lst ((List.range m).map fun (i : Nat) => D.int (i : Int))), [.im (.lst (is.map D.int)), .im (.int 2)]))
    (H27 : ∀ (p : T) (k : Nat), Pt k p → k < 700000000 → ∃ p', Φ 27 [p] = some (.im (.bl true), [p']) ∧ Pt (k + 20000) p') :
    WP (f_law.body.runs Φ GG [] [some (.im (.lst (is.map D.int))), none, none, none]) (Ret [.im (.lst (is.map D.int))] fun t us => t = .im (.bl true)) := by
  obtain ⟨m, hm, h19⟩ := H19
  unfold f_law
  rw [wp_cons]
  refine wp_for (ds := (List.range m).map fun (i : Nat) => D.int (i : Int)) (ρ1 := [some (.im (.lst (is.map D.int))), none, none, none]) (I_laws is) (by simp [h19]) ⟨none, none, rfl⟩ ?_ ?_
  · intro i d ρ hd hI
    obtain ⟨g1, g2, rfl⟩ := hI
    have hi : i < m := by
      have := (List.getElem?_eq_some_iff.mp hd).1
      simpa using this
    simp [hi] at hd
    subst hd
    obtain ⟨p, h16, hp⟩ := H16 (i : Int) (by omega) (by omega)
    simp
    unfold L_law_1
    rw [wp_cons]
    simp [h16]
    rw [wp_cons]
    refine wp_ite ?_
    have hc : ∃ p', Fx.evf Φ GG C_law_1 [some (.im (.lst (is.map D.int))), some (.im (.int (i : Int))), some p, none] = some (.ls ((List.range 3).map (fun _ => T.im (.bl true))), [some (.im (.lst (is.map D.int))), some (.im (.int (i : Int))), some p', none]) := by
      unfold C_law_1
      obtain ⟨a0, b0, i0, rfl, hp0⟩ := hp
      obtain ⟨ts, ρ5, e, p1, rfl, h2, rfl⟩ := comp_inv (Φ := Φ) (G := GG) (vs := [3]) (tg := .nm 3) (f := .ex (.fr (.call 27 (.ref 2 .nil)))) (it := .rng1 (.lit (.int 3)))
        (ρ := [some (.im (.lst (is.map D.int))), some (.im (.int (i : Int))), some (PotT a0 b0 i0), none]) (ρ1 := [some (.im (.lst (is.map D.int))), some (.im (.int (i : Int))), some (PotT a0 b0 i0), none]) (ds := (List.range 3).map fun (i : Nat) => D.int (i : Int)) (I_law is i)
        (evi1 (i := 3) (by simp) (rng2_to rfl (by omega))) (by unfold PotT; simp) (by simp) ⟨PotT a0 b0 i0, by simp, ⟨a0, b0, i0, rfl, by simpa using hp0⟩, rfl⟩ (by
          intro j d us ρ hd hI
          obtain ⟨p2, rfl, h2, rfl⟩ := hI
          have hj : j < 3 := by
            have := (List.getElem?_eq_some_iff.mp hd).1
            simpa using this
          obtain ⟨p3, e, hp3⟩ := H27 p2 _ h2 (by omega)
          obtain ⟨a2, b2, i2, rfl, -⟩ := h2
          unfold PotT at e ⊢
          simp [e]
          exact ⟨p3, by simp, hp3.up (by omega), by rw [List.range_succ, List.map_append]; rfl⟩)
      refine ⟨p1, ?_⟩
      rw [e]
      simp
    obtain ⟨p', hc⟩ := hc
    simp [hc, Function.comp_def, List.range_succ]
    exact ⟨_, _, rfl⟩
  · intro ρ hI
    obtain ⟨g1, g2, rfl⟩ := hI
    rw [kon_nx, wp_cons]
    simp
theorem law_true (is : List Int) (hl : is.length ≤ 63) : ∃ us, txt.sem 20 28 [.im (.lst (is.map D.int))] = some (.im (.bl true), us) := by
  obtain ⟨t, us, e, h⟩ := FP (n := 19) (g := 28) (args := [.im (.lst (is.map D.int))]) (fd := f_law) rfl ⟨rfl, by decide, rfl⟩ rfl rfl rfl (w_law hl _ (fun pl h0 h1 => pot_ok 18 h0 h1 hl) (places_ok 18 hl) fun p k hp hk => right_ok 13 hp hk)
  subst h
  exact ⟨us, e⟩
end K34

set_option Elab.async false
set_option maxRecDepth 100000
open PySem PySem.W PyProof.Rows in
set_option maxRecDepth 100000 in
set_option maxHeartbeats 0 in
theorem PySem.Challenge.cw_eithermended_k34_whole_rows_of_forty_tex_holds : PySem.Challenge.rw_eithermended_k34_whole_rows_of_forty_tex.Holds := by
  w_on; o_law; k_head; (case hw => w_witness2)
  k_fill
  refine' Em.Txt.walk K34.txt (l := PySem.Challenge.rw_eithermended_k34_whole_rows_of_forty_tex) (n := 63) (k := 20) (g := 28) (x := "script") (dn := K34.z_law) rfl (by decide) rfl ?room (fun w h Y => PySem.W.kIn_of Y) (fun w => ?says) (fun w => ?nos) rfl rfl rfl ?bnd ?law
  case room => exact ⟨rfl, by decide, by decide⟩
  case says => show He.obsD _ _ _ = He.valD _; kernel_rfl
  case nos => kernel_rfl
  case bnd => exact fun K f fdata F s u => F.bindsA (ps := ["script"]) (fun kV doc pm an cdv ct us hl => match us, hl with | [_], _ => rfl) s [u] rfl
  case law => exact fun is h => K34.law_true is h
#print axioms PySem.Challenge.cw_eithermended_k34_whole_rows_of_forty_tex_holds
