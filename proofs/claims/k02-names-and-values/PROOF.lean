import PyProof.Rows.All
import Wide.All
import OpenK.AllK
import Wide.FinOn
import HandS.ForMost
import HandS.Flow
import HandS.IsInst
import HandS.TupAny
import HandS.Wide
import HandS.Text
import HandS.EndBits
import PyProof.ReprRoads
import PyProof.ReprLen
import KE.KExcSuper
import HandS.ForExc
import HandS.ExcInit
import KE.KExcIs
import HandS.ExcValue
import HandS.ExcField
import KE.KOpsOwn
import KE.KCallOwn
import HandS.OwnEq
import HandS.Defaults
import HandS.FStr
import HandS.Small
import HandS.Style
import HandS.Zip
import HandS.ClsMeth
import HandS.CallLocal
import OpenK.KMeth
import HandS.TryMany
import HandS.Strs
import KE.SortData
import HandS.Conv
import HandS.DictComp
import HandS.AnyAll
import PyProof.ReprBulk
import PySem.Challenge.RW_hadnot_k02_names_and_values
set_option Elab.async false
set_option linter.all false
set_option maxRecDepth 100000
set_option maxHeartbeats 1000000
/-! EV0: data as values; how a heap holds them; who owns what. -/
namespace EV
open PySem L2
/-- a datum. The flag of a tuple: its record is known; of a list, a dict, an object: it is owned (may be changed) -/
inductive D where
  | non | bl (b : Bool) | int (i : Int) | str (x : Str) | ty (n : String) | ref (a : Addr)
  | tup (k : Bool) (xs : List D)
  | lst (o : Bool) (xs : List D)
  | scr (ns : List Int)
  | dk (o : Bool) (kvs : List (Key × D))
  | dt (o : Bool) (kvs : List (List Key × D))
  | obj (o : Bool) (C : Addr) (fs : List (Str × D))
/-! ### nothing in it is owned -/
mutual
def D.fz : D → Bool
  | .tup _ xs => fzs xs
  | .lst o xs => !o && fzs xs
  | .dk o kvs => !o && fzk kvs
  | .dt o kvs => !o && fzt kvs
  | .obj o _ fs => !o && fzf fs
  | _ => true
def fzs : List D → Bool
  | [] => true
  | d :: ds => d.fz && fzs ds
def fzk : List (Key × D) → Bool
  | [] => true
  | (_, d) :: ds => d.fz && fzk ds
def fzt : List (List Key × D) → Bool
  | [] => true
  | (_, d) :: ds => d.fz && fzt ds
def fzf : List (Str × D) → Bool
  | [] => true
  | (_, d) :: ds => d.fz && fzf ds
end
mutual
def D.ice : D → D
  | .tup k xs => .tup k (ices xs)
  | .lst _ xs => .lst false (ices xs)
  | .dk _ kvs => .dk false (icek kvs)
  | .dt _ kvs => .dt false (icet kvs)
  | .obj _ C fs => .obj false C (icef fs)
  | d => d
def ices : List D → List D
  | [] => []
  | d :: ds => d.ice :: ices ds
def icek : List (Key × D) → List (Key × D)
  | [] => []
  | (k, d) :: ds => (k, d.ice) :: icek ds
def icet : List (List Key × D) → List (List Key × D)
  | [] => []
  | (k, d) :: ds => (k, d.ice) :: icet ds
def icef : List (Str × D) → List (Str × D)
  | [] => []
  | (k, d) :: ds => (k, d.ice) :: icef ds
end
theorem ices_map : ∀ {ds : List D}, ices ds = ds.map D.ice
  | [] => rfl
  | d :: ds => by rw [ices, List.map_cons, ices_map]
theorem icek_vals : ∀ {kvs : List (Key × D)}, (icek kvs).map (·.2) = ices (kvs.map (·.2))
  | [] => rfl
  | (k, d) :: ds => by rw [icek, List.map_cons, List.map_cons, ices, icek_vals]
theorem icet_vals : ∀ {kvs : List (List Key × D)}, (icet kvs).map (·.2) = ices (kvs.map (·.2))
  | [] => rfl
  | (k, d) :: ds => by rw [icet, List.map_cons, List.map_cons, ices, icet_vals]
theorem icef_vals : ∀ {kvs : List (Str × D)}, (icef kvs).map (·.2) = ices (kvs.map (·.2))
  | [] => rfl
  | (k, d) :: ds => by rw [icef, List.map_cons, List.map_cons, ices, icef_vals]
theorem icek_keys : ∀ {kvs : List (Key × D)}, (icek kvs).map (·.1) = kvs.map (·.1)
  | [] => rfl
  | (k, d) :: ds => by rw [icek, List.map_cons, List.map_cons, icek_keys]
theorem icet_keys : ∀ {kvs : List (List Key × D)}, (icet kvs).map (·.1) = kvs.map (·.1)
  | [] => rfl
  | (k, d) :: ds => by rw [icet, List.map_cons, List.map_cons, icet_keys]
theorem icef_keys : ∀ {kvs : List (Str × D)}, (icef kvs).map (·.1) = kvs.map (·.1)
  | [] => rfl
  | (k, d) :: ds => by rw [icef, List.map_cons, List.map_cons, icef_keys]
theorem fzs_all : ∀ {ds : List D}, fzs ds = true ↔ ∀ d ∈ ds, d.fz = true
  | [] => by simp [fzs]
  | d :: ds => by simp [fzs, fzs_all (ds := ds)]
mutual
theorem D.ice_fz : ∀ (d : D), d.ice.fz = true
  | .non => rfl
  | .bl _ => rfl
  | .int _ => rfl
  | .str _ => rfl
  | .ty _ => rfl
  | .ref _ => rfl
  | .tup _ xs => by rw [D.ice, D.fz]; exact ices_fz xs
  | .lst _ xs => by rw [D.ice, D.fz]; exact ices_fz xs
  | .scr _ => rfl
  | .dk _ kvs => by rw [D.ice, D.fz]; exact icek_fz kvs
  | .dt _ kvs => by rw [D.ice, D.fz]; exact icet_fz kvs
  | .obj _ _ fs => by rw [D.ice, D.fz]; exact icef_fz fs
theorem ices_fz : ∀ (ds : List D), fzs (ices ds) = true
  | [] => rfl
  | d :: ds => by rw [ices, fzs, D.ice_fz d, ices_fz ds]; rfl
theorem icek_fz : ∀ (ds : List (Key × D)), fzk (icek ds) = true
  | [] => rfl
  | (_, d) :: ds => by rw [icek, fzk, D.ice_fz d, icek_fz ds]; rfl
theorem icet_fz : ∀ (ds : List (List Key × D)), fzt (icet ds) = true
  | [] => rfl
  | (_, d) :: ds => by rw [icet, fzt, D.ice_fz d, icet_fz ds]; rfl
theorem icef_fz : ∀ (ds : List (Str × D)), fzf (icef ds) = true
  | [] => rfl
  | (_, d) :: ds => by rw [icef, fzf, D.ice_fz d, icef_fz ds]; rfl
end
/-! ### how a heap holds a datum: B what frozen parts keep away from; S the owned records -/
/-- a tuple, a list to be read, away from B (or of the written part) -/
def TuB (K : PySem.W.Frag) (B : Addr → Prop) (H : Hp) (a : Addr) (vs : List V) : Prop := (Rd H a (.tup vs) ∧ ¬ B a) ∨
  ∃ (o : Obj) (its : Array Value) (n : Nat), K.lookup a = some o ∧ o.cls = .type "tuple" ∧ o.data = .seq its n ∧ its.size ≤ sizeLine ∧ Vals vs its.toList
def LiB (K : PySem.W.Frag) (B : Addr → Prop) (H : Hp) (a : Addr) (vs : List V) : Prop := (Rd H a (.lst vs) ∧ ¬ B a) ∨
  ∃ (o : Obj) (its : Array Value) (n : Nat), K.lookup a = some o ∧ o.cls = .type "list" ∧ o.dict = none ∧ o.data = .seq its n ∧ its.size ≤ sizeLine ∧ Vals vs its.toList
mutual
inductive R (K : PySem.W.Frag) (B : Addr → Prop) (H : Hp) : V → D → List Addr → Prop
  | non : R K B H .non .non []
  | bl {b} : R K B H (.bl b) (.bl b) []
  | int {i} : R K B H (.int i) (.int i) []
  | str {x} : R K B H (.str x) (.str x) []
  | ty {n} : R K B H (.ty n) (.ty n) []
  | ref {a} : R K B H (.ref a) (.ref a) []
  | tup {a vs ds} : TuB K B H a vs → Rs K B H vs ds [] → R K B H (.ref a) (.tup false ds) []
  | tupK {a vs ds} : H a = some (.tup vs) → ¬ B a → Rs K B H vs ds [] → R K B H (.ref a) (.tup true ds) []
  | scr {a ns} : LiB K B H a (ns.map V.int) → R K B H (.ref a) (.scr ns) []
  | lstF {a vs ds} : H a = some (.lst vs) → ¬ B a → Rs K B H vs ds [] → R K B H (.ref a) (.lst false ds) []
  | lstO {a vs ds S} : H a = some (.lst vs) → Rs K B H vs ds S → R K B H (.ref a) (.lst true ds) (a :: S)
  | dkF {a kv kd} : H a = some (.dK kv) → ¬ B a → kv.map (·.1) = kd.map (·.1) → Rs K B H (kv.map (·.2)) (kd.map (·.2)) [] → R K B H (.ref a) (.dk false kd) []
  | dkO {a kv kd S} : H a = some (.dK kv) → kv.map (·.1) = kd.map (·.1) → Rs K B H (kv.map (·.2)) (kd.map (·.2)) S → R K B H (.ref a) (.dk true kd) (a :: S)
  | dtF {a kv kd} : H a = some (.dT kv) → ¬ B a → kv.map (·.1) = kd.map (·.1) → Rs K B H (kv.map (·.2)) (kd.map (·.2)) [] → R K B H (.ref a) (.dt false kd) []
  | dtO {a kv kd S} : H a = some (.dT kv) → kv.map (·.1) = kd.map (·.1) → Rs K B H (kv.map (·.2)) (kd.map (·.2)) S → R K B H (.ref a) (.dt true kd) (a :: S)
  | objF {a C dx fv fd} : H a = some (.ins C dx fv) → ¬ B a → fv.map (·.1) = fd.map (·.1) → Rs K B H (fv.map (·.2)) (fd.map (·.2)) [] → R K B H (.ref a) (.obj false C fd) []
  | objO {a C dx fv fd S} : H a = some (.ins C dx fv) → fv.map (·.1) = fd.map (·.1) → Rs K B H (fv.map (·.2)) (fd.map (·.2)) S → R K B H (.ref a) (.obj true C fd) (a :: S)
inductive Rs (K : PySem.W.Frag) (B : Addr → Prop) (H : Hp) : List V → List D → List Addr → Prop
  | nil : Rs K B H [] [] []
  | cons {v d S vs ds T} : R K B H v d S → Rs K B H vs ds T → Rs K B H (v :: vs) (d :: ds) (S ++ T)
end
variable {K : PySem.W.Frag} {B B' : Addr → Prop} {H H' : Hp}
theorem TuB.sq {a : Addr} {vs : List V} (h : TuB K B H a vs) : SqT K H a vs := h.imp (·.1) id
theorem LiB.sq {a : Addr} {vs : List V} (h : LiB K B H a vs) : SqL K H a vs := h.imp (·.1) id
theorem Rd.trk {a : Addr} {u : HO} (h : Rd H a u) : ∃ o, H a = some o := h.elim (fun e => ⟨_, e⟩) fun ⟨_, e⟩ => ⟨_, e⟩
theorem Rd.mono {a : Addr} {u : HO} (h : Rd H a u) (k : ∀ o, H a = some o → H' a = some o) : Rd H' a u := h.imp (fun e => k _ e) fun ⟨o, e⟩ => ⟨o, k _ e⟩
theorem TuB.mono {a : Addr} {vs : List V} (h : TuB K B H a vs) (k : ∀ o, H a = some o → ¬ B a → H' a = some o) (b : ∀ o, H a = some o → ¬ B a → ¬ B' a) : TuB K B' H' a vs :=
  h.imp (fun ⟨r, n⟩ => ⟨Rd.mono r fun o e => k o e n, let ⟨o, e⟩ := Rd.trk r; b o e n⟩) id
theorem LiB.mono {a : Addr} {vs : List V} (h : LiB K B H a vs) (k : ∀ o, H a = some o → ¬ B a → H' a = some o) (b : ∀ o, H a = some o → ¬ B a → ¬ B' a) : LiB K B' H' a vs :=
  h.imp (fun ⟨r, n⟩ => ⟨Rd.mono r fun o e => k o e n, let ⟨o, e⟩ := Rd.trk r; b o e n⟩) id
mutual
/-- what is kept away from B, or owned, stays: so does the datum; B may change -/
theorem R.mono : ∀ {v d S}, R K B H v d S → (∀ a o, H a = some o → (¬ B a ∨ a ∈ S) → H' a = some o) → (∀ a o, H a = some o → ¬ B a → ¬ B' a) → R K B' H' v d S
  | _, _, _, .non, _, _ => .non
  | _, _, _, .bl, _, _ => .bl
  | _, _, _, .int, _, _ => .int
  | _, _, _, .str, _, _ => .str
  | _, _, _, .ty, _, _ => .ty
  | _, _, _, .ref, _, _ => .ref
  | _, _, _, .tup h r, k, b => .tup (h.mono (fun o e n => k _ o e (.inl n)) (b _)) (r.mono k b)
  | _, _, _, .tupK h n r, k, b => .tupK (k _ _ h (.inl n)) (b _ _ h n) (r.mono k b)
  | _, _, _, .scr h, k, b => .scr (h.mono (fun o e n => k _ o e (.inl n)) (b _))
  | _, _, _, .lstF h n r, k, b => .lstF (k _ _ h (.inl n)) (b _ _ h n) (r.mono k b)
  | _, _, _, .lstO h r, k, b => .lstO (k _ _ h (.inr List.mem_cons_self)) (r.mono (fun a o e q => k a o e (q.imp id (List.mem_cons_of_mem _))) b)
  | _, _, _, .dkF h n e r, k, b => .dkF (k _ _ h (.inl n)) (b _ _ h n) e (r.mono k b)
  | _, _, _, .dkO h e r, k, b => .dkO (k _ _ h (.inr List.mem_cons_self)) e (r.mono (fun a o e q => k a o e (q.imp id (List.mem_cons_of_mem _))) b)
  | _, _, _, .dtF h n e r, k, b => .dtF (k _ _ h (.inl n)) (b _ _ h n) e (r.mono k b)
  | _, _, _, .dtO h e r, k, b => .dtO (k _ _ h (.inr List.mem_cons_self)) e (r.mono (fun a o e q => k a o e (q.imp id (List.mem_cons_of_mem _))) b)
  | _, _, _, .objF h n e r, k, b => .objF (k _ _ h (.inl n)) (b _ _ h n) e (r.mono k b)
  | _, _, _, .objO h e r, k, b => .objO (k _ _ h (.inr List.mem_cons_self)) e (r.mono (fun a o e q => k a o e (q.imp id (List.mem_cons_of_mem _))) b)
theorem Rs.mono : ∀ {vs ds S}, Rs K B H vs ds S → (∀ a o, H a = some o → (¬ B a ∨ a ∈ S) → H' a = some o) → (∀ a o, H a = some o → ¬ B a → ¬ B' a) → Rs K B' H' vs ds S
  | _, _, _, .nil, _, _ => .nil
  | _, _, _, .cons r t, k, b => .cons (r.mono (fun a o e q => k a o e (q.imp id (List.mem_append_left _))) b) (t.mono (fun a o e q => k a o e (q.imp id (List.mem_append_right _))) b)
end
/-- records that may be changed -/
def Mu : HO → Prop
  | .lst _ => True
  | .dK _ => True
  | .dT _ => True
  | .ins _ _ _ => True
  | _ => False
abbrev MO := { o : HO // Mu o }
mutual
/-- the records that are owned stand in the heap -/
theorem R.trk : ∀ {v d S}, R K B H v d S → ∀ a, a ∈ S → ∃ o : MO, H a = some o.1
  | _, _, _, .non, _, m => nomatch m
  | _, _, _, .bl, _, m => nomatch m
  | _, _, _, .int, _, m => nomatch m
  | _, _, _, .str, _, m => nomatch m
  | _, _, _, .ty, _, m => nomatch m
  | _, _, _, .ref, _, m => nomatch m
  | _, _, _, .tup _ _, _, m => nomatch m
  | _, _, _, .tupK _ _ _, _, m => nomatch m
  | _, _, _, .scr _, _, m => nomatch m
  | _, _, _, .lstF _ _ _, _, m => nomatch m
  | _, _, _, .lstO h r, a, m => (List.mem_cons.mp m).elim (fun e => e ▸ ⟨⟨.lst _, trivial⟩, h⟩) fun m => r.trk a m
  | _, _, _, .dkF _ _ _ _, _, m => nomatch m
  | _, _, _, .dkO h e r, a, m => (List.mem_cons.mp m).elim (fun e => e ▸ ⟨⟨.dK _, trivial⟩, h⟩) fun m => r.trk a m
  | _, _, _, .dtF _ _ _ _, _, m => nomatch m
  | _, _, _, .dtO h e r, a, m => (List.mem_cons.mp m).elim (fun e => e ▸ ⟨⟨.dT _, trivial⟩, h⟩) fun m => r.trk a m
  | _, _, _, .objF _ _ _ _, _, m => nomatch m
  | _, _, _, .objO h e r, a, m => (List.mem_cons.mp m).elim (fun e => e ▸ ⟨⟨.ins _ _ _, trivial⟩, h⟩) fun m => r.trk a m
theorem Rs.trk : ∀ {vs ds S}, Rs K B H vs ds S → ∀ a, a ∈ S → ∃ o : MO, H a = some o.1
  | _, _, _, .nil, _, m => nomatch m
  | _, _, _, .cons r t, a, m => (List.mem_append.mp m).elim (fun m => r.trk a m) fun m => t.trk a m
end
/-- a frozen datum owns nothing -/
theorem R.nil : ∀ {v d S}, R K B H v d S → d.fz = true → S = []
  | _, _, _, .non, _ => rfl
  | _, _, _, .bl, _ => rfl
  | _, _, _, .int, _ => rfl
  | _, _, _, .str, _ => rfl
  | _, _, _, .ty, _ => rfl
  | _, _, _, .ref, _ => rfl
  | _, _, _, .tup _ _, _ => rfl
  | _, _, _, .tupK _ _ _, _ => rfl
  | _, _, _, .scr _, _ => rfl
  | _, _, _, .lstF _ _ _, _ => rfl
  | _, _, _, .lstO _ _, h => by simp [D.fz] at h
  | _, _, _, .dkF _ _ _ _, _ => rfl
  | _, _, _, .dkO _ _ _, h => by simp [D.fz] at h
  | _, _, _, .dtF _ _ _ _, _ => rfl
  | _, _, _, .dtO _ _ _, h => by simp [D.fz] at h
  | _, _, _, .objF _ _ _ _, _ => rfl
  | _, _, _, .objO _ _ _, h => by simp [D.fz] at h
mutual
/-- to freeze: what is owned by it is not to be kept away from any more -/
theorem R.ice : ∀ {v d S}, R K B H v d S → (∀ a o, H a = some o → (¬ B a ∨ a ∈ S) → ¬ B' a) → R K B' H v d.ice []
  | _, _, _, .non, _ => .non
  | _, _, _, .bl, _ => .bl
  | _, _, _, .int, _ => .int
  | _, _, _, .str, _ => .str
  | _, _, _, .ty, _ => .ty
  | _, _, _, .ref, _ => .ref
  | _, _, _, .tup h r, b => .tup (h.mono (fun o e n => e) fun o e n => b _ o e (.inl n)) (r.ice b)
  | _, _, _, .tupK h n r, b => .tupK h (b _ _ h (.inl n)) (r.ice b)
  | _, _, _, .scr h, b => .scr (h.mono (fun o e n => e) fun o e n => b _ o e (.inl n))
  | _, _, _, .lstF h n r, b => .lstF h (b _ _ h (.inl n)) (r.ice b)
  | _, _, _, .lstO h r, b => .lstF h (b _ _ h (.inr List.mem_cons_self)) (r.ice fun a o e q => b a o e (q.imp id (List.mem_cons_of_mem _)))
  | _, _, _, .dkF h n e r, b => by
    rw [D.ice]
    exact .dkF h (b _ _ h (.inl n)) (e.trans icek_keys.symm) (by rw [icek_vals]; exact r.ice b)
  | _, _, _, .dkO h e r, b => by
    rw [D.ice]
    exact .dkF h (b _ _ h (.inr List.mem_cons_self)) (e.trans icek_keys.symm) (by rw [icek_vals]; exact r.ice fun a o e q => b a o e (q.imp id (List.mem_cons_of_mem _)))
  | _, _, _, .dtF h n e r, b => by
    rw [D.ice]
    exact .dtF h (b _ _ h (.inl n)) (e.trans icet_keys.symm) (by rw [icet_vals]; exact r.ice b)
  | _, _, _, .dtO h e r, b => by
    rw [D.ice]
    exact .dtF h (b _ _ h (.inr List.mem_cons_self)) (e.trans icet_keys.symm) (by rw [icet_vals]; exact r.ice fun a o e q => b a o e (q.imp id (List.mem_cons_of_mem _)))
  | _, _, _, .objF h n e r, b => by
    rw [D.ice]
    exact .objF h (b _ _ h (.inl n)) (e.trans icef_keys.symm) (by rw [icef_vals]; exact r.ice b)
  | _, _, _, .objO h e r, b => by
    rw [D.ice]
    exact .objF h (b _ _ h (.inr List.mem_cons_self)) (e.trans icef_keys.symm) (by rw [icef_vals]; exact r.ice fun a o e q => b a o e (q.imp id (List.mem_cons_of_mem _)))
theorem Rs.ice : ∀ {vs ds S}, Rs K B H vs ds S → (∀ a o, H a = some o → (¬ B a ∨ a ∈ S) → ¬ B' a) → Rs K B' H vs (ices ds) []
  | _, _, _, .nil, _ => .nil
  | _, _, _, .cons r t, b => Rs.cons (r.ice fun a o e q => b a o e (q.imp id (List.mem_append_left _))) (t.ice fun a o e q => b a o e (q.imp id (List.mem_append_right _)))
end
end EV

set_option Elab.async false
set_option linter.all false
set_option maxRecDepth 100000
set_option maxHeartbeats 1000000
/-! EV1: environments, steps, the judgements; names, constants, operators. -/
namespace EV
open PySem L2
abbrev Env := List (Option D)
structure Exc where
  C : Addr
  fs : Option (List (Str × D))
inductive Out (α : Type) where
  | ok (a : α)
  | exc (ρ : Env) (x : Exc)
  | bad
def Out.bind {α β : Type} (x : Out α) (f : α → Out β) : Out β := match x with
  | .ok a => f a
  | .exc ρ e => .exc ρ e
  | .bad => .bad
@[simp] theorem Out.bind_ok {α β : Type} {a : α} {f : α → Out β} : (Out.ok a).bind f = f a := rfl
@[simp] theorem Out.bind_exc {α β : Type} {ρ : Env} {e : Exc} {f : α → Out β} : (Out.exc ρ e : Out α).bind f = .exc ρ e := rfl
@[simp] theorem Out.bind_bad {α β : Type} {f : α → Out β} : (Out.bad : Out α).bind f = .bad := rfl
abbrev VE := Env → Out (Env × D)
inductive Arg where
  | val (d : D)
  | slot (i : Nat)
def Arg.res (ρ : Env) : Arg → Option D
  | .val d => some d
  | .slot i => (ρ[i]?).join
abbrev VA := Env → Out (Env × Arg)
inductive Ctl where
  | nx | bk | ct
  | rt (d : D)
abbrev VS := Env → Out (Env × Ctl)
/-! ### who keeps away from what -/
abbrev Bs := Addr → Prop
def bl (B0 : Bs) (S : Nat → List Addr) : Bs := fun a => B0 a ∨ ∃ i, a ∈ S i
def pl (B0 : Bs) (s : List Addr) : Bs := fun a => B0 a ∨ a ∈ s
structure EnvR (K : PySem.W.Frag) (B0 : Bs) (H : Hp) (σ : St) (ρ : Env) (S : Nat → List Addr) : Prop where
  sl : ∀ i d, ρ[i]? = some (some d) → ∃ v, σ[i]? = some (some v) ∧ R K (bl B0 S) H v d (S i)
  nd : ∀ i, (S i).Nodup
  dj : ∀ i j a, a ∈ S i → a ∈ S j → i = j
  av : ∀ i a, a ∈ S i → ¬ B0 a
  tb : ∀ a, B0 a → ∃ o : MO, H a = some o.1
  ts : ∀ i a, a ∈ S i → ∃ o : MO, H a = some o.1
  ln : σ.length = ρ.length
structure Step (H : Hp) (S : Nat → List Addr) (H' : Hp) (S' : Nat → List Addr) (s : List Addr) : Prop where
  keep : ∀ a o, H a = some o → (∀ i, a ∉ S i) → H' a = some o
  own : ∀ a, ((∃ i, a ∈ S' i) ∨ a ∈ s) → H a = none ∨ ∃ i, a ∈ S i
variable {K : PySem.W.Frag} {B0 : Bs} {H H1 H2 H' : Hp} {σ : St} {ρ ρ1 ρ2 : Env} {S S1 S2 S' : Nat → List Addr} {s s1 s2 : List Addr} {E : St → XK}
theorem Step.refl (H : Hp) (S : Nat → List Addr) : Step H S H S [] := ⟨fun _ _ e _ => e, fun a h => h.elim .inr fun m => nomatch m⟩
theorem Step.not (t : Step H S H1 S1 s1) {a : Addr} {o : HO} (e : H a = some o) (n : ∀ i, a ∉ S i) : ∀ i, a ∉ S1 i := fun i m => by
  rcases t.own a (.inl ⟨i, m⟩) with q | ⟨j, q⟩
  · rw [e] at q; cases q
  · exact n j q
theorem Step.nots (t : Step H S H1 S1 s1) {a : Addr} {o : HO} (e : H a = some o) (n : ∀ i, a ∉ S i) : a ∉ s1 := fun m => by
  rcases t.own a (.inr m) with q | ⟨j, q⟩
  · rw [e] at q; cases q
  · exact n j q
theorem Step.trans (t : Step H S H1 S1 s1) (u : Step H1 S1 H2 S2 s2) : Step H S H2 S2 (s1 ++ s2) where
  keep := fun a o e n => u.keep a o (t.keep a o e n) (t.not e n)
  own := fun a h => by
    have h1 : ((∃ i, a ∈ S2 i) ∨ a ∈ s2) ∨ a ∈ s1 := by
      rcases h with h | h
      · exact .inl (.inl h)
      · rcases List.mem_append.mp h with h | h
        · exact .inr h
        · exact .inl (.inr h)
    rcases h1 with h1 | h1
    · rcases u.own a h1 with q | ⟨j, q⟩
      · cases e : H a with
        | none => exact .inl rfl
        | some o =>
          refine .inr ?_
          by_cases m : ∃ i, a ∈ S i
          · exact m
          · rw [t.keep a o e fun i z => m ⟨i, z⟩] at q
            cases q
      · exact t.own a (.inl ⟨j, q⟩)
    · exact t.own a (.inr h1)
theorem Step.sub (t : Step H S H1 S1 s1) (h : ∀ a ∈ s2, a ∈ s1) : Step H S H1 S1 s2 := ⟨t.keep, fun a q => t.own a (q.imp id (h a))⟩
/-- the heap only grew -/
theorem Step.grow (m : Same H H1) (h : ∀ a ∈ s, H a = none) : Step H S H1 S s := ⟨fun a o e _ => m a o e, fun a q => q.elim .inr fun z => .inl (h a z)⟩
theorem bl_pl {a : Addr} (h : ¬ bl (pl B0 s) S a) : ¬ bl B0 S a ∧ a ∉ s := ⟨fun q => h (q.imp .inl id), fun q => h (.inl (.inr q))⟩
theorem EnvR.tr (e : EnvR K B0 H σ ρ S) {a : Addr} (h : bl B0 S a) : ∃ o : MO, H a = some o.1 := h.elim (e.tb a) fun ⟨i, m⟩ => e.ts i a m
/-- fewer things to keep away from -/
theorem EnvR.less (e : EnvR K (pl B0 s) H σ ρ S) : EnvR K B0 H σ ρ S where
  sl := fun i d h => let ⟨v, h1, r⟩ := e.sl i d h; ⟨v, h1, r.mono (fun _ _ q _ => q) fun _ _ _ n => (bl_pl n).1⟩
  nd := e.nd
  dj := e.dj
  av := fun i a m q => e.av i a m (.inl q)
  tb := fun a q => e.tb a (.inl q)
  ts := e.ts
  ln := e.ln
/-- the heap only grew; new records are owned by others -/
theorem EnvR.grow (e : EnvR K B0 H σ ρ S) (m : Same H H1) (f : ∀ a ∈ s, H a = none) (t : ∀ a ∈ s, ∃ o : MO, H1 a = some o.1) : EnvR K (pl B0 s) H1 σ ρ S where
  sl := fun i d h => let ⟨v, h1, r⟩ := e.sl i d h; ⟨v, h1, r.mono (fun a o q _ => m a o q) fun a o q n z => by
    rcases z with (z | z) | z
    · exact n (.inl z)
    · rw [f a z] at q; cases q
    · exact n (.inr z)⟩
  nd := e.nd
  dj := e.dj
  av := fun i a m' q => by
    rcases q with q | q
    · exact e.av i a m' q
    · obtain ⟨o, h⟩ := e.ts i a m'
      rw [f a q] at h
      cases h
  tb := fun a q => by
    rcases q with q | q
    · obtain ⟨o, h⟩ := e.tb a q
      exact ⟨o, m a o h⟩
    · exact t a q
  ts := fun i a m' => let ⟨o, h⟩ := e.ts i a m'; ⟨o, m a o h⟩
  ln := e.ln
/-! ### the judgements -/
def XR (K : PySem.W.Frag) (B : Bs) (H : Hp) (x : Exc) (dd : Option Addr) : Prop := match x.fs with
  | none => dd = none
  | some fs => ∃ d fv, dd = some d ∧ H d = some (.xd fv) ∧ fv.map (·.1) = fs.map (·.1) ∧ Rs K B H (fv.map (·.2)) (fs.map (·.2)) []
/-- the wish of an exception -/
def XP (K : PySem.W.Frag) (E : St → XK) (B0 : Bs) (σ : St) (H : Hp) (S : Nat → List Addr) (ρ' : Env) (x : Exc) : Prop :=
  ∀ H' S' dd, EnvR K B0 H' σ ρ' S' → XR K (bl B0 S') H' x dd → Step H S H' S' [] → E σ (.ref x.C) dd H'
def Post (K : PySem.W.Frag) (E : St → XK) (B0 : Bs) (σ : St) (H : Hp) (S : Nat → List Addr) (Q : VK) : Out (Env × D) → Prop
  | .ok (ρ', d) => ∀ v H' S' s, EnvR K (pl B0 s) H' σ ρ' S' → R K (bl (pl B0 s) S') H' v d s → s.Nodup → (∀ a ∈ s, ¬ B0 a) → Step H S H' S' s → Q v H'
  | .exc ρ' x => XP K E B0 σ H S ρ' x
  | .bad => False
def EV (K : PySem.W.Frag) (E : St → XK) (t : TE) (F : VE) : Prop := ∀ B0 σ H ρ S Q, EnvR K B0 H σ ρ S → Post K E B0 σ H S Q (F ρ) → t σ H Q
/-- an operand: a datum, or the thing of a slot as it will stand -/
def APost (K : PySem.W.Frag) (E : St → XK) (B0 : Bs) (σ : St) (H : Hp) (S : Nat → List Addr) (Q : VK) : Out (Env × Arg) → Prop
  | .ok (ρ', .val d) => ∀ v H' S' s, EnvR K (pl B0 s) H' σ ρ' S' → R K (bl (pl B0 s) S') H' v d s → s.Nodup → (∀ a ∈ s, ¬ B0 a) → Step H S H' S' s → Q v H'
  | .ok (ρ', .slot i) => ∀ v H' S', σ[i]? = some (some v) → EnvR K B0 H' σ ρ' S' → Step H S H' S' [] → Q v H'
  | .exc ρ' x => XP K E B0 σ H S ρ' x
  | .bad => False
def AR (K : PySem.W.Frag) (E : St → XK) (t : TE) (F : VA) : Prop := ∀ B0 σ H ρ S Q, EnvR K B0 H σ ρ S → APost K E B0 σ H S Q (F ρ) → t σ H Q
/-! ### names, constants -/
def vC (d : D) : VE := fun ρ => .ok (ρ, d)
theorem pl_nil : pl B0 [] = B0 := by
  funext a
  exact propext ⟨fun h => h.elim id fun m => (nomatch m), .inl⟩
theorem EnvR.nil (e : EnvR K B0 H σ ρ S) : EnvR K (pl B0 []) H σ ρ S := by rw [pl_nil]; exact e
theorem ev_c {v : V} {d : D} (h : ∀ B H, R K B H v d []) : EV K E (tC v) (vC d) := fun B0 σ H ρ S Q e p =>
  p v H S [] e.nil (h _ _) List.nodup_nil (fun _ m => nomatch m) (Step.refl H S)
theorem ev_int {i : Int} : EV K E (tC (.int i)) (vC (.int i)) := ev_c fun _ _ => .int
theorem ev_str {i : Str} : EV K E (tC (.str i)) (vC (.str i)) := ev_c fun _ _ => .str
theorem ev_bl {i : Bool} : EV K E (tC (.bl i)) (vC (.bl i)) := ev_c fun _ _ => .bl
theorem ev_non : EV K E (tC .non) (vC .non) := ev_c fun _ _ => .non
theorem ev_ref {a : Addr} : EV K E (tC (.ref a)) (vC (.ref a)) := ev_c fun _ _ => .ref
/-- a slot's thing, frozen -/
def vVar (i : Nat) : VE := fun ρ => match (ρ[i]?).join with
  | some d => if d.fz then .ok (ρ, d) else .ok (ρ.set i (some d.ice), d.ice)
  | none => .bad
def sset (S : Nat → List Addr) (i : Nat) (s : List Addr) : Nat → List Addr := fun j => if j = i then s else S j
theorem join_some {i : Nat} {d : D} : (ρ[i]?).join = some d ↔ ρ[i]? = some (some d) := by
  cases h : ρ[i]? with
  | none => simp
  | some o => cases o <;> simp
theorem sset_mem {i j : Nat} {a : Addr} (h : a ∈ sset S i s j) : (j = i ∧ a ∈ s) ∨ (j ≠ i ∧ a ∈ S j) := by
  unfold sset at h
  split at h
  · exact .inl ⟨by assumption, h⟩
  · exact .inr ⟨by assumption, h⟩
/-- a slot is frozen -/
theorem EnvR.ice (e : EnvR K B0 H σ ρ S) {i : Nat} {d : D} (hi : ρ[i]? = some (some d)) : EnvR K B0 H σ (ρ.set i (some d.ice)) (sset S i []) ∧ ∀ v, σ[i]? = some (some v) → R K (bl B0 (sset S i [])) H v d.ice [] := by
  have lessB : ∀ a, bl B0 (sset S i []) a → bl B0 S a := fun a q => q.elim .inl fun ⟨j, m⟩ => by
    rcases sset_mem m with ⟨_, m⟩ | ⟨_, m⟩
    · cases m
    · exact .inr ⟨j, m⟩
  have ri : ∀ v, σ[i]? = some (some v) → R K (bl B0 (sset S i [])) H v d.ice [] := fun v hv => by
    obtain ⟨v', h1, r⟩ := e.sl i d hi
    rw [hv] at h1
    cases h1
    refine r.ice fun a o q n z => ?_
    rcases n with n | n
    · exact n (lessB a z)
    · rcases z with z | ⟨j, z⟩
      · exact e.av i a n z
      · rcases sset_mem z with ⟨_, z⟩ | ⟨hj, z⟩
        · cases z
        · exact hj (e.dj j i a z n)
  refine ⟨⟨fun j d' h => ?_, fun j => ?_, fun j k a h1 h2 => ?_, fun j a h => ?_, e.tb, fun j a h => ?_, by rw [List.length_set]; exact e.ln⟩, ri⟩
  · by_cases hj : j = i
    · subst hj
      obtain ⟨v, h1, _⟩ := e.sl j d hi
      have hl : j < ρ.length := (List.getElem?_eq_some_iff.mp hi).1
      rw [List.getElem?_set_self hl] at h
      cases h
      refine ⟨v, h1, ?_⟩
      rw [show sset S j [] j = [] from if_pos rfl]
      exact ri v h1
    · rw [List.getElem?_set_ne (Ne.symm hj)] at h
      obtain ⟨v, h1, r⟩ := e.sl j d' h
      refine ⟨v, h1, ?_⟩
      rw [show sset S i [] j = S j from if_neg hj]
      exact r.mono (fun _ _ q _ => q) fun a o _ n z => n (lessB a z)
  · unfold sset
    split
    · exact List.nodup_nil
    · exact e.nd j
  · rcases sset_mem h1 with ⟨_, m⟩ | ⟨_, m1⟩
    · cases m
    · rcases sset_mem h2 with ⟨_, m⟩ | ⟨_, m2⟩
      · cases m
      · exact e.dj j k a m1 m2
  · rcases sset_mem h with ⟨_, m⟩ | ⟨_, m⟩
    · cases m
    · exact e.av j a m
  · rcases sset_mem h with ⟨_, m⟩ | ⟨_, m⟩
    · cases m
    · exact e.ts j a m
theorem Step.ice {i : Nat} : Step H S H (sset S i []) [] := ⟨fun _ _ e _ => e, fun a h => h.elim (fun ⟨j, m⟩ => by
  rcases sset_mem m with ⟨_, m⟩ | ⟨_, m⟩
  · cases m
  · exact .inr ⟨j, m⟩) fun m => nomatch m⟩
theorem ev_var {i : Nat} : EV K E (tVar i) (vVar i) := fun B0 σ H ρ S Q e p => by
  unfold vVar at p
  cases hj : (ρ[i]?).join with
  | none => rw [hj] at p; exact p.elim
  | some d =>
    rw [hj] at p
    have hi := join_some.mp hj
    obtain ⟨v, h1, r⟩ := e.sl i d hi
    refine ⟨v, h1, ?_⟩
    by_cases hf : d.fz = true
    · simp only [hf, if_true] at p
      have z := r.nil hf
      rw [z] at r
      exact p v H S [] e.nil (by rw [pl_nil]; exact r) List.nodup_nil (fun _ m => nomatch m) (Step.refl H S)
    · simp only [hf, if_false] at p
      obtain ⟨e', r'⟩ := e.ice hi
      exact p v H _ [] e'.nil (by rw [pl_nil]; exact r' v h1) List.nodup_nil (fun _ m => nomatch m) Step.ice
def vSlot (i : Nat) : VA := fun ρ => match (ρ[i]?).join with
  | some _ => .ok (ρ, .slot i)
  | none => .bad
theorem ar_slot {i : Nat} : AR K E (tVar i) (vSlot i) := fun B0 σ H ρ S Q e p => by
  unfold vSlot at p
  cases hj : (ρ[i]?).join with
  | none => rw [hj] at p; exact p.elim
  | some d =>
    rw [hj] at p
    obtain ⟨v, h1, r⟩ := e.sl i d (join_some.mp hj)
    exact ⟨v, h1, p v H S h1 e (Step.refl H S)⟩
def vVal (F : VE) : VA := fun ρ => (F ρ).bind fun q => .ok (q.1, .val q.2)
theorem ar_val {t : TE} {F : VE} (h : EV K E t F) : AR K E t (vVal F) := fun B0 σ H ρ S Q e p => by
  refine h B0 σ H ρ S Q e ?_
  unfold vVal at p
  cases hF : F ρ with
  | ok q => rw [hF] at p; exact p
  | exc ρ' x => rw [hF] at p; exact p
  | bad => rw [hF] at p; exact p.elim
end EV

set_option Elab.async false
set_option linter.all false
set_option maxRecDepth 100000
set_option maxHeartbeats 1000000
/-! EV2: lists of operands; operators. -/
namespace EV
open PySem L2
variable {K : PySem.W.Frag} {B0 : Bs} {H H1 H2 H' : Hp} {σ : St} {ρ ρ1 ρ2 : Env} {S S1 S2 S' : Nat → List Addr} {s s1 s2 : List Addr} {E : St → XK}
theorem pl_app : pl B0 (s1 ++ s2) = pl (pl B0 s1) s2 := by
  funext a
  unfold pl
  refine propext ⟨fun h => ?_, fun h => ?_⟩
  · rcases h with h | h
    · exact .inl (.inl h)
    · exact (List.mem_append.mp h).elim (fun h => .inl (.inr h)) .inr
  · rcases h with (h | h) | h
    · exact .inl h
    · exact .inr (List.mem_append_left _ h)
    · exact .inr (List.mem_append_right _ h)
/-- a held datum through a step of others -/
theorem held {v : V} {d : D} (e1 : EnvR K (pl B0 s) H1 σ ρ1 S1) (r : R K (bl (pl B0 s) S1) H1 v d s) (t : Step H1 S1 H2 S2 s2) : R K (bl (pl (pl B0 s) s2) S2) H2 v d s := by
  refine r.mono (fun a o q n => t.keep a o q fun i m => ?_) fun a o q n z => ?_
  · rcases n with n | n
    · exact n (.inr ⟨i, m⟩)
    · exact e1.av i a m (.inr n)
  · have n1 : ∀ i, a ∉ S1 i := fun i m => n (.inr ⟨i, m⟩)
    rcases z with (z | z) | ⟨i, z⟩
    · exact n (.inl z)
    · exact t.nots q n1 z
    · exact t.not q n1 i z
theorem helds {vs : List V} {ds : List D} (e1 : EnvR K (pl B0 s) H1 σ ρ1 S1) (r : Rs K (bl (pl B0 s) S1) H1 vs ds []) (t : Step H1 S1 H2 S2 s2) : Rs K (bl (pl (pl B0 s) s2) S2) H2 vs ds [] := by
  refine r.mono (fun a o q n => t.keep a o q fun i m => ?_) fun a o q n z => ?_
  · rcases n with n | n
    · exact n (.inr ⟨i, m⟩)
    · cases n
  · have n1 : ∀ i, a ∉ S1 i := fun i m => n (.inr ⟨i, m⟩)
    rcases z with (z | z) | ⟨i, z⟩
    · exact n (.inl z)
    · exact t.nots q n1 z
    · exact t.not q n1 i z
theorem XP.back {ρ' : Env} {x : Exc} (t : Step H S H1 S1 s) (h : XP K E B0 σ H S ρ' x) : XP K E (pl B0 s) σ H1 S1 ρ' x := fun H' S' dd e r u => by
  refine h H' S' dd e.less ?_ ((t.trans u).sub fun a m => (nomatch m))
  unfold XR at r ⊢
  cases hf : x.fs with
  | none => rw [hf] at r; exact r
  | some fs =>
    rw [hf] at r
    obtain ⟨d, fv, h1, h2, h3, h4⟩ := r
    exact ⟨d, fv, h1, h2, h3, h4.mono (fun _ _ q _ => q) fun a o _ n => (bl_pl n).1⟩
theorem XP.back0 {ρ' : Env} {x : Exc} (t : Step H S H1 S1 []) (h : XP K E B0 σ H S ρ' x) : XP K E B0 σ H1 S1 ρ' x := fun H' S' dd e r u => h H' S' dd e r (t.trans u)
/-- operands in a row -/
inductive Hs (K : PySem.W.Frag) (B : Bs) (H : Hp) (σ : St) : List V → List Arg → List Addr → Prop
  | nil : Hs K B H σ [] [] []
  | val {v d s vs as T} : R K B H v d s → Hs K B H σ vs as T → Hs K B H σ (v :: vs) (.val d :: as) (s ++ T)
  | slot {v i vs as T} : σ[i]? = some (some v) → Hs K B H σ vs as T → Hs K B H σ (v :: vs) (.slot i :: as) T
abbrev VL := Env → Out (Env × List Arg)
def LPost (K : PySem.W.Frag) (E : St → XK) (B0 : Bs) (σ : St) (H : Hp) (S : Nat → List Addr) (Q : List V → Hp → Prop) : Out (Env × List Arg) → Prop
  | .ok (ρ', as) => ∀ vs H' S' s, EnvR K (pl B0 s) H' σ ρ' S' → Hs K (bl (pl B0 s) S') H' σ vs as s → s.Nodup → (∀ a ∈ s, ¬ B0 a) → Step H S H' S' s → Q vs H'
  | .exc ρ' x => XP K E B0 σ H S ρ' x
  | .bad => False
def AL (K : PySem.W.Frag) (E : St → XK) (t : TA) (F : VL) : Prop := ∀ B0 σ H ρ S Q, EnvR K B0 H σ ρ S → LPost K E B0 σ H S Q (F ρ) → t σ H Q
def vNil : VL := fun ρ => .ok (ρ, [])
theorem al_nil : AL K E tNil vNil := fun B0 σ H ρ S Q e p => p [] H S [] e.nil .nil List.nodup_nil (fun _ m => nomatch m) (Step.refl H S)
def vCons (F : VA) (G : VL) : VL := fun ρ => (F ρ).bind fun q => (G q.1).bind fun r => .ok (r.1, q.2 :: r.2)
theorem al_cons {t : TE} {u : TA} {F : VA} {G : VL} (h1 : AR K E t F) (h2 : AL K E u G) : AL K E (tCons t u) (vCons F G) := fun B0 σ H ρ S Q e p => by
  refine h1 B0 σ H ρ S _ e ?_
  unfold vCons at p
  cases hF : F ρ with
  | bad => rw [hF] at p; exact p.elim
  | exc ρ' x => rw [hF] at p; exact p
  | ok q =>
    obtain ⟨ρ1, a⟩ := q
    rw [hF] at p
    rw [Out.bind_ok] at p
    cases a with
    | val d =>
      intro v H1 S1 s1 e1 r1 n1 a1 t1
      refine h2 (pl B0 s1) σ H1 ρ1 S1 _ e1 ?_
      cases hG : G ρ1 with
      | bad => rw [hG] at p; exact p.elim
      | exc ρ' x =>
        rw [hG] at p
        exact XP.back t1 p
      | ok q2 =>
        obtain ⟨ρ2, as⟩ := q2
        rw [hG] at p
        intro vs H2 S2 s2 e2 r2 n2 a2 t2
        refine p (v :: vs) H2 S2 (s1 ++ s2) (by rw [pl_app]; exact e2) (by rw [pl_app]; exact .val (held e1 r1 t2) r2) (List.nodup_append.mpr ⟨n1, n2, fun a m b m' z => ?_⟩) (fun a m => ?_) (t1.trans t2)
        · subst z
          exact a2 a m' (.inr m)
        · rcases List.mem_append.mp m with m | m
          · exact a1 a m
          · exact fun z => a2 a m (.inl z)
    | slot i =>
      intro v H1 S1 hv e1 t1
      refine h2 B0 σ H1 ρ1 S1 _ e1 ?_
      cases hG : G ρ1 with
      | bad => rw [hG] at p; exact p.elim
      | exc ρ' x =>
        rw [hG] at p
        exact XP.back0 t1 p
      | ok q2 =>
        obtain ⟨ρ2, as⟩ := q2
        rw [hG] at p
        intro vs H2 S2 s2 e2 r2 n2 a2 t2
        exact p (v :: vs) H2 S2 s2 e2 (.slot hv r2) n2 a2 (t1.trans t2)
/-! ### what an operator makes of data -/
/-- a new datum over a heap that only grew -/
def Res (K : PySem.W.Frag) (B : Bs) (H : Hp) (d : D) (Q : VK) : Prop := ∀ v H' s, Same H H' → R K (fun a => B a ∨ a ∈ s) H' v d s → s.Nodup → (∀ a ∈ s, H a = none) → Q v H'
theorem Res.at {B : Bs} {d : D} {Q : VK} {v : V} (h : Res K B H d Q) (r : R K B H v d []) : Q v H := h v H [] (fun _ _ e => e) (r.mono (fun _ _ q _ => q) fun a o _ n z => z.elim n fun m => nomatch m) List.nodup_nil fun _ m => nomatch m
/-- the operands as data -/
def resAll (ρ : Env) : List Arg → Option (List D)
  | [] => some []
  | a :: as => match a.res ρ, resAll ρ as with
    | some d, some ds => some (d :: ds)
    | _, _ => none
/-- each operand is held, whoever owns it -/
inductive Rp (K : PySem.W.Frag) (B : Bs) (H : Hp) : List V → List D → Prop
  | nil : Rp K B H [] []
  | cons {v d s vs ds} : R K B H v d s → Rp K B H vs ds → Rp K B H (v :: vs) (d :: ds)
theorem Hs.rp : ∀ {vs as s' ds}, EnvR K (pl B0 s) H σ ρ S → Hs K (bl (pl B0 s) S) H σ vs as s' → resAll ρ as = some ds → Rp K (bl (pl B0 s) S) H vs ds
  | _, _, _, _, _, .nil, h => by cases h; exact .nil
  | _, _, _, ds, e, .val (d := d) (as := as) r t, h => by
    unfold resAll at h
    simp only [Arg.res] at h
    cases hr : resAll ρ as with
    | none => rw [hr] at h; cases h
    | some ds' =>
      rw [hr] at h
      cases h
      exact .cons r (t.rp e hr)
  | _, _, _, ds, e, .slot (i := i) (as := as) hv t, h => by
    unfold resAll at h
    simp only [Arg.res] at h
    cases hj : (ρ[i]?).join with
    | none => rw [hj] at h; cases h
    | some d =>
      rw [hj] at h
      cases hr : resAll ρ as with
      | none => rw [hr] at h; cases h
      | some ds' =>
        rw [hr] at h
        cases h
        obtain ⟨v', h1, r⟩ := e.sl i d (join_some.mp hj)
        rw [hv] at h1
        cases h1
        exact .cons r (t.rp e hr)
/-- the end of an operator: operands at ρ, f makes a datum of them -/
def vFin (f : List D → Option D) : Env × List Arg → Out (Env × D) := fun q => match (resAll q.1 q.2).bind f with
  | some d => .ok (q.1, d)
  | none => .bad
def vOp (f : List D → Option D) (F : VL) : VE := fun ρ => (F ρ).bind (vFin f)
/-- a rule by values, as a function of data -/
def OPS (K : PySem.W.Frag) (r : List V → Hp → VK → Prop) (f : List D → Option D) : Prop := ∀ B H vs ds d Q, (∀ a, B a → ∃ o : MO, H a = some o.1) → Rp K B H vs ds → f ds = some d → Res K B H d Q → r vs H Q
theorem ev_op {u : TA} {F : VL} {r : List V → Hp → VK → Prop} {f : List D → Option D} {t : TE} (h : AL K E u F) (o : OPS K r f) (ht : ∀ σ H Q, u σ H (fun vs H1 => r vs H1 Q) → t σ H Q) : EV K E t (vOp f F) := fun B0 σ H ρ S Q e p => by
  refine ht σ H Q (h B0 σ H ρ S _ e ?_)
  unfold vOp at p
  cases hF : F ρ with
  | bad => rw [hF] at p; exact p.elim
  | exc ρ' x => rw [hF] at p; exact p
  | ok q =>
    obtain ⟨ρ1, as⟩ := q
    rw [hF] at p
    rw [Out.bind_ok] at p
    unfold vFin at p
    intro vs H1 S1 s1 e1 hs n1 a1 t1
    cases hr : resAll ρ1 as with
    | none => rw [hr] at p; exact p.elim
    | some ds =>
      rw [hr] at p
      simp only [Option.bind_some] at p
      cases hf : f ds with
      | none => rw [hf] at p; exact p.elim
      | some d =>
        rw [hf] at p
        refine o (bl (pl B0 s1) S1) H1 vs ds d Q (fun a q => e1.tr q) (hs.rp e1 hr) hf fun v H2 s2 m r2 n2 f2 => ?_
        have t2 : ∀ a ∈ s2, ∃ o : MO, H2 a = some o.1 := fun a m' => r2.trk a m'
        refine p v H2 S1 s2 (e1.less.grow m f2 t2) (r2.mono (fun _ _ q _ => q) fun a o _ n z => ?_) n2 (fun a m' z => ?_) ((t1.trans (Step.grow m f2)).sub fun a m' => List.mem_append_right _ m')
        · rcases z with (z | z) | ⟨i, z⟩
          · exact n (.inl (.inl (.inl z)))
          · exact n (.inr z)
          · exact n (.inl (.inr ⟨i, z⟩))
        · obtain ⟨o', ho⟩ := e1.tb a (.inl z)
          rw [f2 a m'] at ho
          cases ho
/-- two operands -/
abbrev r2 (r : R2) : List V → Hp → VK → Prop := fun vs H Q => match vs with
  | [x, y] => r x y H Q
  | _ => False
abbrev v2 (F G : VA) : VL := vCons F (vCons G vNil)
theorem ev_op2 {ta tb : TE} {F G : VA} {r : R2} {f : List D → Option D} (ha : AR K E ta F) (hb : AR K E tb G) (o : OPS K (r2 r) f) : EV K E (tOp r ta tb) (vOp f (v2 F G)) :=
  ev_op (al_cons ha (al_cons hb al_nil)) o fun _ _ _ h => h
abbrev r1 (r : V → Hp → VK → Prop) : List V → Hp → VK → Prop := fun vs H Q => match vs with
  | [x] => r x H Q
  | _ => False
theorem ev_op1 {ta : TE} {F : VA} {r : V → Hp → VK → Prop} {f : List D → Option D} (ha : AR K E ta F) (o : OPS K (r1 r) f) : EV K E (tUn r ta) (vOp f (vCons F vNil)) :=
  ev_op (al_cons ha al_nil) o fun _ _ _ h => h
end EV

set_option Elab.async false
set_option linter.all false
set_option maxRecDepth 100000
set_option maxHeartbeats 1000000
/-! EV3: operators on data. -/
namespace EV
open PySem L2
variable {K : PySem.W.Frag} {B B' : Bs} {H H1 H2 H' : Hp} {σ : St} {ρ ρ1 ρ2 : Env} {S S1 S2 S' : Nat → List Addr} {s s1 s2 : List Addr} {E : St → XK} {Q : VK}
abbrev LIM : Nat := 10000000
theorem lim : LIM ≤ sizeLine := by decide
theorem sameN {p : Addr} {o : HO} (h : H p = none) : Same H (upd H p o) := fun b x e => by
  rw [upd_ne (ne_of_none e h)]
  exact e
theorem Rs.nilS : ∀ {vs ds S}, Rs K B H vs ds S → fzs ds = true → S = []
  | _, _, _, .nil, _ => rfl
  | _, _, _, .cons r t, h => by
    rw [fzs, Bool.and_eq_true] at h
    rw [r.nil h.1, t.nilS h.2]
    rfl
theorem Rs.fr {vs : List V} {ds : List D} {S : List Addr} (h : Rs K B H vs ds S) (f : fzs ds = true) : Rs K B H vs ds [] := by
  have e := h.nilS f
  rw [e] at h
  exact h
theorem Rp.fr : ∀ {vs ds}, Rp K B H vs ds → fzs ds = true → Rs K B H vs ds []
  | _, _, .nil, _ => .nil
  | _, _, .cons r t, h => by
    rw [fzs, Bool.and_eq_true] at h
    have e := r.nil h.1
    rw [e] at r
    exact Rs.cons r (t.fr h.2)
theorem Rs.len : ∀ {vs ds S}, Rs K B H vs ds S → vs.length = ds.length
  | _, _, _, .nil => rfl
  | _, _, _, .cons _ t => congrArg (· + 1) t.len
theorem Rp.len : ∀ {vs ds}, Rp K B H vs ds → vs.length = ds.length
  | _, _, .nil => rfl
  | _, _, .cons _ t => congrArg (· + 1) t.len
theorem Rs.app : ∀ {vs ds ws es}, Rs K B H vs ds [] → Rs K B H ws es [] → Rs K B H (vs ++ ws) (ds ++ es) [] := by
  intro vs
  induction vs with
  | nil => intro ds ws es h k; cases h; exact k
  | cons v vs ih =>
    intro ds ws es h k
    generalize hS : ([] : List Addr) = S0 at h
    cases h with
    | cons r t =>
      obtain ⟨e1, e2⟩ := List.append_eq_nil_iff.mp hS.symm
      subst e1 e2
      exact Rs.cons r (ih t k)
theorem Rs.cons_inv {v : V} {vs : List V} {ds : List D} (h : Rs K B H (v :: vs) ds []) : ∃ d ds', ds = d :: ds' ∧ R K B H v d [] ∧ Rs K B H vs ds' [] := by
  generalize hS : ([] : List Addr) = S0 at h
  cases h with
  | cons r t =>
    obtain ⟨e1, e2⟩ := List.append_eq_nil_iff.mp hS.symm
    subst e1 e2
    exact ⟨_, _, rfl, r, t⟩
theorem Rs.get : ∀ {vs : List V} {ds : List D} {i : Nat} {d : D}, Rs K B H vs ds [] → ds[i]? = some d → ∃ v, vs[i]? = some v ∧ R K B H v d []
  | [], ds, i, d, h, e => by cases h; simp at e
  | v :: vs, ds, i, d, h, e => by
    obtain ⟨d0, ds', rfl, r, t⟩ := h.cons_inv
    cases i with
    | zero => simp at e; subst e; exact ⟨v, rfl, r⟩
    | succ i => simpa using Rs.get (i := i) t (by simpa using e)
theorem Rs.take : ∀ {vs : List V} {ds : List D} (n : Nat), Rs K B H vs ds [] → Rs K B H (vs.take n) (ds.take n) []
  | _, _, 0, _ => by simpa using Rs.nil
  | [], _, _ + 1, h => by cases h; simpa using Rs.nil
  | v :: vs, ds, n + 1, h => by
    obtain ⟨d0, ds', rfl, r, t⟩ := h.cons_inv
    exact Rs.cons r (t.take n)
theorem Rs.drop : ∀ {vs : List V} {ds : List D} (n : Nat), Rs K B H vs ds [] → Rs K B H (vs.drop n) (ds.drop n) []
  | _, _, 0, h => h
  | [], _, _ + 1, h => by cases h; simpa using Rs.nil
  | v :: vs, ds, n + 1, h => by
    obtain ⟨d0, ds', rfl, r, t⟩ := h.cons_inv
    exact t.drop n
/-! ### new things -/
theorem Rs.grow {vs : List V} {ds : List D} (r : Rs K B H vs ds []) (m : Same H H') (f : ∀ a ∈ s, H a = none) : Rs K (fun a => B a ∨ a ∈ s) H' vs ds [] :=
  r.mono (fun a o e _ => m a o e) fun a o e n z => z.elim n fun z => by rw [f a z] at e; cases e
theorem R.grow {v : V} {d : D} (r : R K B H v d []) (m : Same H H') (f : ∀ a ∈ s, H a = none) : R K (fun a => B a ∨ a ∈ s) H' v d [] :=
  r.mono (fun a o e _ => m a o e) fun a o e n z => z.elim n fun z => by rw [f a z] at e; cases e
theorem Res.lst {vs : List V} {ds : List D} {p : Addr} (q : Res K B H (.lst true ds) Q) (r : Rs K B H vs ds []) (np : H p = none) : Q (.ref p) (upd H p (.lst vs)) := by
  have f : ∀ a ∈ [p], H a = none := fun a m => by
    have : a = p := by simpa using m
    rw [this]; exact np
  exact q (.ref p) _ [p] (sameN np) (.lstO upd_same (r.grow (sameN np) f)) (by simp) f
theorem Res.tup {vs : List V} {ds : List D} {p : Addr} (hB : ∀ a, B a → ∃ o : MO, H a = some o.1) (q : Res K B H (.tup false ds) Q) (r : Rs K B H vs ds []) (np : H p = none) : Q (.ref p) (upd H p (.tup vs)) := by
  refine q (.ref p) _ [] (sameN np) (.tup (.inl ⟨.inl upd_same, fun z => ?_⟩) (r.grow (sameN np) fun _ m => nomatch m)) List.nodup_nil fun _ m => nomatch m
  rcases z with z | z
  · obtain ⟨o, h⟩ := hB p z
    rw [np] at h
    cases h
  · cases z
theorem Res.tupN {vs : List V} {ds : List D} {p : Addr} (hB : ∀ a, B a → ∃ o : MO, H a = some o.1) (q : Res K B H (.tup true ds) Q) (r : Rs K B H vs ds []) (np : H p = none) : Q (.ref p) (upd H p (.tup vs)) := by
  refine q (.ref p) _ [] (sameN np) (.tupK upd_same (fun z => ?_) (r.grow (sameN np) fun _ m => nomatch m)) List.nodup_nil fun _ m => nomatch m
  rcases z with z | z
  · obtain ⟨o, h⟩ := hB p z
    rw [np] at h
    cases h
  · cases z
theorem Res.int {i : Int} (q : Res K B H (.int i) Q) : Q (.int i) H := q.at .int
theorem Res.bl {i : Bool} (q : Res K B H (.bl i) Q) : Q (.bl i) H := q.at .bl
theorem Res.str {i : Str} (q : Res K B H (.str i) Q) : Q (.str i) H := q.at .str
/-! ### sequences read -/
/-- the items of a list or a tuple -/
def D.seq? : D → Option (List D)
  | .tup _ xs => some xs
  | .lst _ xs => some xs
  | .scr ns => some (ns.map D.int)
  | _ => none
theorem rs_ints : ∀ {ns : List Int}, Rs K B H (ns.map V.int) (ns.map D.int) []
  | [] => .nil
  | _ :: _ => Rs.cons .int rs_ints
theorem R.seq {v : V} {d : D} {xs : List D} (r : R K B H v d s) (h : d.seq? = some xs) : ∃ p vs S, v = .ref p ∧ (SqL K H p vs ∨ SqT K H p vs) ∧ Rs K B H vs xs S := by
  cases r <;> simp only [D.seq?, Option.some.injEq] at h <;> first | (cases h; done) | subst h
  · exact ⟨_, _, _, rfl, .inr (TuB.sq ‹_›), ‹_›⟩
  · exact ⟨_, _, _, rfl, .inr (.inl (.inl ‹_›)), ‹_›⟩
  · exact ⟨_, _, _, rfl, .inl (LiB.sq ‹_›), rs_ints⟩
  · exact ⟨_, _, _, rfl, .inl (SqL.of ‹_›), ‹_›⟩
  · exact ⟨_, _, _, rfl, .inl (SqL.of ‹_›), ‹_›⟩
/-! ### arithmetic -/
def fI (g : Int → Int → D) : List D → Option D
  | [.int i, .int j] => some (g i j)
  | _ => none
def fIc (c : Int → Int → Bool) (g : Int → Int → D) : List D → Option D
  | [.int i, .int j] => if c i j then some (g i j) else none
  | _ => none
theorem o_i0 {g : Int → Int → V} {g' : Int → Int → D} (h : ∀ B H i j, R K B H (g i j) (g' i j) []) : OPS K (r2 (rI0 g)) (fI g') := by
  intro B H vs ds d Q hB hr hf q
  match ds, hr, hf with
  | [.int i, .int j], .cons .int (.cons .int .nil), e =>
    cases e
    exact ⟨i, j, rfl, rfl, q.at (h _ _ _ _)⟩
theorem o_ic {c : Int → Int → Bool} {C : Int → Int → Prop} {g : Int → Int → V} {g' : Int → Int → D} (hc : ∀ i j, c i j = true → C i j) (h : ∀ B H i j, R K B H (g i j) (g' i j) []) : OPS K (r2 (rI C g)) (fIc c g') := by
  intro B H vs ds d Q hB hr hf q
  match ds, hr, hf with
  | [.int i, .int j], .cons .int (.cons .int .nil), e =>
    simp only [fIc] at e
    split at e
    · rename_i z
      cases e
      exact ⟨i, j, rfl, rfl, hc i j z, q.at (h _ _ _ _)⟩
    · cases e
def fSub := fI fun i j => .int (i - j)
theorem o_sub : OPS K (r2 (rI0 fun i j => V.int (i - j))) fSub := o_i0 fun _ _ _ _ => .int
def cMod (_ j : Int) : Bool := decide (0 < j)
def fMod := fIc cMod fun i j => .int (i % j)
theorem o_mod : OPS K (r2 (rI (fun _ j => 0 < j) fun i j => V.int (i % j))) fMod := o_ic (fun _ _ h => of_decide_eq_true h) fun _ _ _ _ => .int
def cDiv (_ j : Int) : Bool := decide (0 < j) && decide (j.natAbs.log2 < 9000)
def fDiv := fIc cDiv fun i j => .int (i / j)
theorem o_fdiv : OPS K (r2 (rI CDivW fun i j => V.int (i / j))) fDiv := o_ic (fun _ _ h => by
  obtain ⟨h1, h2⟩ := Bool.and_eq_true_iff.mp h
  exact ⟨of_decide_eq_true h1, of_decide_eq_true h2⟩) fun _ _ _ _ => .int
def cPow (i j : Int) : Bool := decide (0 ≤ j) && (decide (j ≤ 1000000) && decide (i.natAbs < 2 ^ 64))
def fPow := fIc cPow fun i j => .int (i ^ j.toNat)
theorem o_pow : OPS K (r2 (rI CPow fun i j => V.int (i ^ j.toNat))) fPow := o_ic (fun _ _ h => by
  obtain ⟨h1, h2⟩ := Bool.and_eq_true_iff.mp h
  obtain ⟨h2, h3⟩ := Bool.and_eq_true_iff.mp h2
  exact ⟨of_decide_eq_true h1, of_decide_eq_true h2, of_decide_eq_true h3⟩) fun _ _ _ _ => .int
/-! ### + of ints, texts, lists, tuples -/
def uAdd (K : PySem.W.Frag) : R2 := fun x y H Q => rI0 (fun i j => V.int (i + j)) x y H Q ∨ ((∃ i j, x = .str i ∧ y = .str j ∧ i.length + j.length ≤ sizeLine ∧ Q (.str (i ++ j)) H) ∨ (rCat x y H Q ∨ rCatA K x y H Q))
theorem u_add {X : Cx} : OpR X (binaryOp .Add) (uAdd X.K) := op_add.or (op_add_str.or (op_cat.or op_catA))
def fAdd : List D → Option D
  | [.int i, .int j] => some (.int (i + j))
  | [.str a, .str b] => if a.length + b.length ≤ LIM then some (.str (a ++ b)) else none
  | [.lst _ xs, .lst _ ys] => if fzs xs && (fzs ys && decide (xs.length + ys.length ≤ LIM)) then some (.lst true (xs ++ ys)) else none
  | [.tup _ xs, .tup _ ys] => if fzs xs && (fzs ys && decide (xs.length + ys.length ≤ LIM)) then some (.tup false (xs ++ ys)) else none
  | _ => none
theorem R.lst {v : V} {o : Bool} {xs : List D} (r : R K B H v (.lst o xs) s) (f : fzs xs = true) : ∃ p vs, v = .ref p ∧ H p = some (.lst vs) ∧ Rs K B H vs xs [] := by
  cases r with
  | lstF h n t => exact ⟨_, _, rfl, h, t⟩
  | lstO h t => exact ⟨_, _, rfl, h, t.fr f⟩
theorem R.tup' {v : V} {o : Bool} {xs : List D} (r : R K B H v (.tup o xs) s) : ∃ p vs, v = .ref p ∧ TuB K B H p vs ∧ Rs K B H vs xs [] := by
  cases r with
  | tup h t => exact ⟨_, _, rfl, h, t⟩
  | tupK h n t => exact ⟨_, _, rfl, .inl ⟨.inl h, n⟩, t⟩
theorem o_add : OPS K (r2 (uAdd K)) fAdd := by
  intro B H vs ds d Q hB hr hf q
  match ds, hr, hf with
  | [.int i, .int j], .cons .int (.cons .int .nil), e =>
    cases e
    exact .inl ⟨i, j, rfl, rfl, q.int⟩
  | [.str a, .str b], .cons .str (.cons .str .nil), e =>
    simp only [fAdd] at e
    split at e
    · cases e
      exact .inr (.inl ⟨a, b, rfl, rfl, Nat.le_trans (by assumption) lim, q.str⟩)
    · cases e
  | [.lst o xs, .lst o' ys], .cons r1 (.cons r2 .nil), e =>
    simp only [fAdd] at e
    split at e
    · rename_i c
      cases e
      obtain ⟨c1, c2⟩ := Bool.and_eq_true_iff.mp c
      obtain ⟨c2, c3⟩ := Bool.and_eq_true_iff.mp c2
      obtain ⟨p, vs, rfl, h1, t1⟩ := r1.lst c1
      obtain ⟨p', ws, rfl, h2, t2⟩ := r2.lst c2
      have c3 := of_decide_eq_true c3
      refine .inr (.inr (.inl ⟨p, p', vs, ws, rfl, rfl, h1, h2, ?_, fun u nu => Res.lst q (t1.app t2) nu⟩))
      rw [t1.len, t2.len]
      exact Nat.le_trans c3 lim
    · cases e
  | [.tup o xs, .tup o' ys], .cons r1 (.cons r2 .nil), e =>
    simp only [fAdd] at e
    split at e
    · rename_i c
      cases e
      obtain ⟨c1, c2⟩ := Bool.and_eq_true_iff.mp c
      obtain ⟨c2, c3⟩ := Bool.and_eq_true_iff.mp c2
      obtain ⟨p, vs, rfl, h1, t1⟩ := r1.tup'
      obtain ⟨p', ws, rfl, h2, t2⟩ := r2.tup'
      have c3 := of_decide_eq_true c3
      refine .inr (.inr (.inr ⟨p, p', vs, ws, rfl, rfl, h1.sq, h2.sq, ?_, fun z => ?_, fun _ z => ?_, fun _ _ u nu => Res.tup hB q (t1.app t2) nu⟩))
      · rw [t1.len, t2.len]
        exact Nat.le_trans c3 lim
      · subst z
        cases t1
        exact q.at (.tup h2 t2)
      · subst z
        cases t2
        rw [List.append_nil] at q
        exact q.at (.tup h1 t1)
    · cases e
end EV

set_option Elab.async false
set_option linter.all false
set_option maxRecDepth 100000
set_option maxHeartbeats 1000000
/-! EV4: comparisons, membership, places, slices, built-ins. -/
namespace EV
open PySem L2
variable {K : PySem.W.Frag} {B B' : Bs} {H H1 H2 H' : Hp} {σ : St} {ρ ρ1 ρ2 : Env} {S S1 S2 S' : Nat → List Addr} {s s1 s2 : List Addr} {E : St → XK} {Q : VK}
/-! ### scalars -/
def D.sv : D → Option V
  | .non => some .non
  | .bl b => some (.bl b)
  | .int i => some (.int i)
  | .str x => some (.str x)
  | _ => none
theorem R.sv {v x : V} {d : D} (r : R K B H v d s) (h : d.sv = some x) : v = x := by
  cases r <;> simp only [D.sv, Option.some.injEq] at h <;> first | (cases h; done) | exact h
/-! ### as plain data -/
mutual
def D.toP : D → Option PyData
  | .non => some .none
  | .bl b => some (.bool b)
  | .int i => some (.int i)
  | .str x => some (.str x)
  | .tup _ xs => (toPs xs).map PyData.tuple
  | .lst _ xs => (toPs xs).map PyData.list
  | _ => none
def toPs : List D → Option (List PyData)
  | [] => some []
  | d :: ds => match d.toP, toPs ds with
    | some p, some ps => some (p :: ps)
    | _, _ => none
end
mutual
theorem R.dp : ∀ {v d S p}, R K B H v d S → d.toP = some p → Dp K H v p
  | _, _, _, _, .non, h => by cases h; exact .non
  | _, _, _, _, .bl, h => by cases h; exact .bl _
  | _, _, _, _, .int, h => by cases h; exact .int _
  | _, _, _, _, .str, h => by cases h; exact .str _
  | _, _, _, _, .ty, h => by cases h
  | _, _, _, _, .ref, h => by cases h
  | _, .tup _ xs, _, _, .tup a t, h => by
    rw [D.toP] at h
    cases e : toPs xs with
    | none => rw [e] at h; cases h
    | some ps => rw [e] at h; cases h; exact .tup a.sq (t.dp e)
  | _, .tup _ xs, _, _, .tupK a _ t, h => by
    rw [D.toP] at h
    cases e : toPs xs with
    | none => rw [e] at h; cases h
    | some ps => rw [e] at h; cases h; exact .tup (.inl (.inl a)) (t.dp e)
  | _, _, _, _, .scr _, h => by cases h
  | _, .lst _ xs, _, _, .lstF a _ t, h => by
    rw [D.toP] at h
    cases e : toPs xs with
    | none => rw [e] at h; cases h
    | some ps => rw [e] at h; cases h; exact .lst (SqL.of a) (t.dp e)
  | _, .lst _ xs, _, _, .lstO a t, h => by
    rw [D.toP] at h
    cases e : toPs xs with
    | none => rw [e] at h; cases h
    | some ps => rw [e] at h; cases h; exact .lst (SqL.of a) (t.dp e)
  | _, _, _, _, .dkF _ _ _ _, h => by cases h
  | _, _, _, _, .dkO _ _ _, h => by cases h
  | _, _, _, _, .dtF _ _ _ _, h => by cases h
  | _, _, _, _, .dtO _ _ _, h => by cases h
  | _, _, _, _, .objF _ _ _ _, h => by cases h
  | _, _, _, _, .objO _ _ _, h => by cases h
theorem Rs.dp : ∀ {vs ds S ps}, Rs K B H vs ds S → toPs ds = some ps → DpAll K H vs ps
  | _, _, _, _, .nil, h => by cases h; exact .nil
  | _, d :: ds, _, _, .cons r t, h => by
    rw [toPs] at h
    cases e1 : d.toP with
    | none => rw [e1] at h; cases h
    | some p =>
      cases e2 : toPs ds with
      | none => rw [e1, e2] at h; cases h
      | some ps =>
        rw [e1, e2] at h
        cases h
        exact .cons (r.dp e1) (t.dp e2)
end
/-! ### ==, != -/
def uEq (K : PySem.W.Frag) : R2 := fun x y H Q => rEq x y H Q ∨ rEqD K x y H Q
def uNe (K : PySem.W.Frag) : R2 := fun x y H Q => rNe x y H Q ∨ rNeD K x y H Q
theorem u_eq {X : Cx} (hu : X.A.units + 64 < cLine) : OpR X (compareOp .Eq) (uEq X.K) := op_eq.or (op_eqD hu)
theorem u_ne {X : Cx} (hu : X.A.units + 64 < cLine) : OpR X (compareOp .NotEq) (uNe X.K) := op_ne.or (op_neD hu)
/-- whether two data are equal, where it can be told -/
def eqD (a b : D) : Option Bool := match a.sv, b.sv with
  | some x, some y => if scal x y then some (decide (x = y)) else none
  | _, _ => match a.toP, b.toP with
    | some p, some q => if SeqAt.shaped p && SeqAt.shaped q then some (PyData.eqv p q) else none
    | _, _ => none
def fEq : List D → Option D
  | [a, b] => (eqD a b).map D.bl
  | _ => none
def fNe : List D → Option D
  | [a, b] => (eqD a b).map fun k => D.bl (!k)
  | _ => none
theorem eqD_or {x y : V} {a b : D} {k : Bool} (r1 : R K B H x a s1) (r2 : R K B H y b s2) (h : eqD a b = some k) : (scal x y = true ∧ k = decide (x = y)) ∨ ∃ p q, Dp K H x p ∧ Dp K H y q ∧ SeqAt.shaped p = true ∧ SeqAt.shaped q = true ∧ k = PyData.eqv p q := by
  unfold eqD at h
  have data : (match a.toP, b.toP with
      | some p, some q => if SeqAt.shaped p && SeqAt.shaped q then some (PyData.eqv p q) else none
      | _, _ => none) = some k → ∃ p q, Dp K H x p ∧ Dp K H y q ∧ SeqAt.shaped p = true ∧ SeqAt.shaped q = true ∧ k = PyData.eqv p q := fun h => by
    cases e1 : a.toP with
    | none => rw [e1] at h; cases h
    | some p =>
      cases e2 : b.toP with
      | none => rw [e1, e2] at h; cases h
      | some q =>
        rw [e1, e2] at h
        dsimp only at h
        split at h
        · rename_i c
          obtain ⟨c1, c2⟩ := Bool.and_eq_true_iff.mp c
          exact ⟨p, q, r1.dp e1, r2.dp e2, c1, c2, (Option.some.inj h).symm⟩
        · cases h
  cases e1 : a.sv with
  | none => rw [e1] at h; exact .inr (data h)
  | some x' =>
    cases e2 : b.sv with
    | none => rw [e1, e2] at h; exact .inr (data h)
    | some y' =>
      rw [e1, e2] at h
      dsimp only at h
      split at h
      · rename_i c
        have ex := r1.sv e1
        have ey := r2.sv e2
        subst ex ey
        exact .inl ⟨c, (Option.some.inj h).symm⟩
      · cases h
theorem o_eq : OPS K (r2 (uEq K)) fEq := by
  intro B H vs ds d Q hB hr hf q
  match ds, hr, hf with
  | [a, b], .cons r1 (.cons r2 .nil), e =>
    simp only [fEq] at e
    cases h : eqD a b with
    | none => rw [h] at e; cases e
    | some k =>
      rw [h] at e
      cases e
      rcases eqD_or r1 r2 h with ⟨c, rfl⟩ | ⟨p, p', h1, h2, h3, h4, rfl⟩
      · exact .inl ⟨c, q.bl⟩
      · exact .inr ⟨p, p', h1, h2, h3, h4, q.bl⟩
theorem o_ne : OPS K (r2 (uNe K)) fNe := by
  intro B H vs ds d Q hB hr hf q
  match ds, hr, hf with
  | [a, b], .cons r1 (.cons r2 .nil), e =>
    simp only [fNe] at e
    cases h : eqD a b with
    | none => rw [h] at e; cases e
    | some k =>
      rw [h] at e
      cases e
      rcases eqD_or r1 r2 h with ⟨c, rfl⟩ | ⟨p, p', h1, h2, h3, h4, rfl⟩
      · exact .inl ⟨c, q.bl⟩
      · exact .inr ⟨p, p', h1, h2, h3, h4, q.bl⟩
/-! ### < and the like -/
def fCmp (f : Int → Int → Bool) (g : List Nat → List Nat → Bool) : List D → Option D
  | [.int i, .int j] => some (.bl (f i j))
  | [.str a, .str b] => some (.bl (g a.cps.toList b.cps.toList))
  | _ => none
def uCmp (f : Int → Int → Bool) (g : List Nat → List Nat → Bool) : R2 := fun x y H Q => rI0 (fun i j => V.bl (f i j)) x y H Q ∨ ∃ i j, x = .str i ∧ y = .str j ∧ Q (.bl (g i.cps.toList j.cps.toList)) H
theorem o_cmp {f : Int → Int → Bool} {g : List Nat → List Nat → Bool} : OPS K (r2 (uCmp f g)) (fCmp f g) := by
  intro B H vs ds d Q hB hr hf q
  match ds, hr, hf with
  | [.int i, .int j], .cons .int (.cons .int .nil), e =>
    cases e
    exact .inl ⟨i, j, rfl, rfl, q.bl⟩
  | [.str i, .str j], .cons .str (.cons .str .nil), e =>
    cases e
    exact .inr ⟨i, j, rfl, rfl, q.bl⟩
theorem u_lt {X : Cx} : OpR X (compareOp .Lt) (uCmp (fun i j => decide (i < j)) fun a b => decide (a < b)) := op_lt.or op_lt_str
def fLt := fCmp (fun i j => decide (i < j)) fun a b => decide (a < b)
def fI2 (g : Int → Int → Bool) : List D → Option D := fI fun i j => .bl (g i j)
theorem o_ib {g : Int → Int → Bool} : OPS K (r2 (rI0 fun i j => V.bl (g i j))) (fI2 g) := o_i0 fun _ _ _ _ => .bl
def fLe := fI2 fun i j => decide (i ≤ j)
def fGt := fI2 fun i j => decide (j < i)
def fGe := fI2 fun i j => decide (j ≤ i)
/-! ### is None -/
def D.isN : D → Bool
  | .non => true
  | _ => false
theorem R.isN {v : V} {d : D} (r : R K B H v d s) : decide (v = .non) = d.isN := by
  cases r <;> first | rfl | exact decide_eq_false (by intro h; cases h)
def fIsN (neg : Bool) : List D → Option D
  | [a, .non] => some (.bl (if neg then !a.isN else a.isN))
  | _ => none
theorem o_isN : OPS K (r2 fun x y H Q => y = V.non ∧ Q (.bl (decide (x = .non))) H) (fIsN false) := by
  intro B H vs ds d Q hB hr hf q
  match ds, hr, hf with
  | [a, .non], .cons r (.cons .non .nil), e =>
    cases e
    exact ⟨rfl, by rw [r.isN]; exact q.bl⟩
theorem o_notN : OPS K (r2 fun x y H Q => y = V.non ∧ Q (.bl (!decide (x = .non))) H) (fIsN true) := by
  intro B H vs ds d Q hB hr hf q
  match ds, hr, hf with
  | [a, .non], .cons r (.cons .non .nil), e =>
    cases e
    exact ⟨rfl, by rw [r.isN]; exact q.bl⟩
end EV

set_option Elab.async false
set_option linter.all false
set_option maxRecDepth 100000
set_option maxHeartbeats 1000000
/-! EV5: membership, places, slices, displays, built-ins. -/
namespace EV
open PySem L2
variable {K : PySem.W.Frag} {B B' : Bs} {H H1 H2 H' : Hp} {σ : St} {ρ ρ1 ρ2 : Env} {S S1 S2 S' : Nat → List Addr} {s s1 s2 : List Addr} {E : St → XK} {Q : VK}
/-! ### in -/
def svs : List D → Option (List V)
  | [] => some []
  | d :: ds => match d.sv, svs ds with
    | some v, some vs => some (v :: vs)
    | _, _ => none
theorem Rs.svs : ∀ {vs ds S ws}, Rs K B H vs ds S → svs ds = some ws → vs = ws
  | _, _, _, _, .nil, h => by cases h; rfl
  | _, d :: ds, _, _, .cons r t, h => by
    rw [EV.svs] at h
    cases e1 : d.sv with
    | none => rw [e1] at h; cases h
    | some p =>
      cases e2 : EV.svs ds with
      | none => rw [e1, e2] at h; cases h
      | some ps =>
        rw [e1, e2] at h
        cases h
        rw [r.sv e1, t.svs e2]
theorem sv_flat {d : D} {v : V} (h : d.sv = some v) : flatV v = true := by
  cases d <;> simp only [D.sv, Option.some.injEq] at h <;> first | (cases h; done) | (subst h; rfl)
theorem svs_flat : ∀ {ds : List D} {vs : List V}, svs ds = some vs → vs.all flatV = true
  | [], _, h => by cases h; rfl
  | d :: ds, vs, h => by
    rw [svs] at h
    cases e1 : d.sv with
    | none => rw [e1] at h; cases h
    | some p =>
      cases e2 : svs ds with
      | none => rw [e1, e2] at h; cases h
      | some ps =>
        rw [e1, e2] at h
        cases h
        rw [List.all_cons, sv_flat e1, svs_flat e2]
        rfl
def inD (a c : D) : Option Bool := match a, c with
  | .str x, .str z => match x.cps.toList with
    | [k] => some (decide (k ∈ z.cps.toList))
    | _ => none
  | a, c => match a.sv, c.seq?.bind svs with
    | some v, some vs => some (inV v vs)
    | _, _ => none
def fIn (neg : Bool) : List D → Option D
  | [a, c] => (inD a c).map fun k => D.bl (if neg then !k else k)
  | _ => none
def uIn (K : PySem.W.Frag) (neg : Bool) : R2 := fun x y H Q => rIn K neg x y H Q ∨ ∃ (c : Nat) (z : Str), x = .str ⟨#[c]⟩ ∧ y = .str z ∧ Q (.bl (if neg then !decide (c ∈ z.cps.toList) else decide (c ∈ z.cps.toList))) H
theorem u_in {X : Cx} : OpR X (compareOp .In) (uIn X.K false) := op_in_seq.or op_in_sign
theorem u_notIn {X : Cx} : OpR X (compareOp .NotIn) (uIn X.K true) := op_notIn_seq.or op_notIn_sign
theorem inD_seq {a c : D} {k : Bool} (h : inD a c = some k) : (∃ (x : Nat) (z : Str), a = .str ⟨#[x]⟩ ∧ c = .str z ∧ k = decide (x ∈ z.cps.toList)) ∨ ∃ v xs vs, a.sv = some v ∧ c.seq? = some xs ∧ svs xs = some vs ∧ k = inV v vs := by
  unfold inD at h
  split at h
  · rename_i x z
    split at h
    · rename_i k' e
      refine .inl ⟨k', z, ?_, rfl, (Option.some.inj h).symm⟩
      have : x = ⟨#[k']⟩ := by
        cases x with
        | mk cps =>
          have e' : cps.toList = [k'] := e
          have : cps = #[k'] := by
            rw [← Array.toArray_toList (xs := cps), e']
          rw [this]
      rw [this]
    · cases h
  · split at h
    · rename_i v vs e1 e2
      cases e3 : c.seq? with
      | none => rw [e3] at e2; cases e2
      | some xs =>
        rw [e3] at e2
        exact .inr ⟨v, xs, vs, e1, rfl, e2, (Option.some.inj h).symm⟩
    · cases h
theorem o_in {neg : Bool} : OPS K (r2 (uIn K neg)) (fIn neg) := by
  intro B H vs ds d Q hB hr hf q
  match ds, hr, hf with
  | [a, c], .cons r1 (.cons r2 .nil), e =>
    simp only [fIn] at e
    cases h : inD a c with
    | none => rw [h] at e; cases e
    | some k =>
      rw [h] at e
      cases e
      rcases inD_seq h with ⟨x, z, rfl, rfl, rfl⟩ | ⟨v, xs, ws, h1, h2, h3, rfl⟩
      · cases r1
        cases r2
        exact .inr ⟨x, z, rfl, rfl, q.bl⟩
      · obtain ⟨p, vs', S, rfl, sq, t⟩ := r2.seq h2
        have e1 := r1.sv h1
        have e2 := t.svs h3
        subst e1 e2
        exact .inl ⟨p, _, rfl, sq, sv_flat h1, svs_flat h3, q.bl⟩
/-! ### places -/
theorem Rs.getA : ∀ {vs : List V} {ds : List D} {S : List Addr} {i : Nat} {d : D}, Rs K B H vs ds S → ds[i]? = some d → ∃ v S', vs[i]? = some v ∧ R K B H v d S'
  | _, _, _, _, _, .nil, e => by simp at e
  | _, _, _, 0, d, .cons r t, e => by simp at e; subst e; exact ⟨_, _, rfl, r⟩
  | _, _, _, i + 1, d, .cons r t, e => by simpa using Rs.getA (i := i) t (by simpa using e)
theorem Rs.atI {vs : List V} {ds : List D} {S : List Addr} {i : Int} {d : D} (h : Rs K B H vs ds S) (e : L2.atI ds i = some d) : ∃ v S', L2.atI vs i = some v ∧ R K B H v d S' := by
  unfold L2.atI at e ⊢
  rw [h.len]
  cases hj : ixN ds.length i with
  | none => rw [hj] at e; cases e
  | some j =>
    rw [hj] at e
    exact h.getA e
def ixD (c : D) (i : Int) : Option D := match c with
  | .str z => if z.length ≤ LIM then (atI z.cps.toList i).map fun c => D.str ⟨#[c]⟩ else none
  | c => match c.seq?.bind fun xs => atI xs i with
    | some d => if d.fz then some d else none
    | none => none
def fIx : List D → Option D
  | [c, .int i] => ixD c i
  | _ => none
theorem o_ix : OPS K (r2 (rIx K)) fIx := by
  intro B H vs ds d Q hB hr hf q
  match ds, hr, hf with
  | [c, .int i], .cons r1 (.cons .int .nil), e =>
    simp only [fIx] at e
    unfold ixD at e
    split at e
    · rename_i z
      cases r1
      split at e
      · rename_i hz
        cases ea : atI z.cps.toList i with
        | none => rw [ea] at e; cases e
        | some c =>
          rw [ea] at e
          cases e
          exact .inr (.inr ⟨z, i, c, rfl, rfl, Nat.le_trans hz lim, ea, q.str⟩)
      · cases e
    · cases es : c.seq? with
      | none => rw [es] at e; cases e
      | some xs =>
        rw [es] at e
        simp only [Option.bind_some] at e
        cases ea : atI xs i with
        | none => rw [ea] at e; cases e
        | some d' =>
          rw [ea] at e
          dsimp only at e
          split at e
          · rename_i hf'
            cases e
            obtain ⟨p, ws, S, rfl, sq, t⟩ := r1.seq es
            obtain ⟨v, S', hv, rv⟩ := t.atI ea
            have z := rv.nil hf'
            rw [z] at rv
            rcases sq with sq | sq
            · exact .inl ⟨p, ws, i, v, rfl, rfl, sq, hv, q.at rv⟩
            · exact .inr (.inl ⟨p, ws, i, v, rfl, rfl, sq, hv, q.at rv⟩)
          · cases e
/-! ### slices -/
def cutD (xs : List D) (lo hi : Option Int) : List D := (xs.drop (HT.sIx xs.length 0 lo)).take (HT.sIx xs.length xs.length hi - HT.sIx xs.length 0 lo)
def slD (c : D) (lo hi : Option Int) : Option D := match c with
  | .str z => if z.length ≤ LIM then some (.str (cutS z lo hi)) else none
  | .lst _ xs => if fzs xs then some (.lst true (cutD xs lo hi)) else none
  | .tup _ xs => some (.tup false (cutD xs lo hi))
  | _ => none
def uSl (K : PySem.W.Frag) : V → Option Int → Option Int → Hp → VK → Prop := fun x lo hi H Q => rSlL K x lo hi H Q ∨ (rSlS x lo hi H Q ∨ rSlA K x lo hi H Q)
theorem u_sl {X : Cx} : SlR X (uSl X.K) := sl_list.or (sl_str.or sl_tupA)
theorem cut_rs {vs : List V} {xs : List D} {lo hi : Option Int} (t : Rs K B H vs xs []) : Rs K B H (cutV vs lo hi) (cutD xs lo hi) [] := by
  unfold cutV cutD
  rw [t.len]
  exact (t.drop _).take _
theorem o_sl0 {c d : D} {x : V} {lo hi : Option Int} (hB : ∀ a, B a → ∃ o : MO, H a = some o.1) (r : R K B H x c s) (h : slD c lo hi = some d) (q : Res K B H d Q) : uSl K x lo hi H Q := by
  unfold slD at h
  split at h
  · rename_i z
    split at h
    · rename_i hz
      cases h
      cases r
      exact .inr (.inl ⟨z, rfl, Nat.le_trans hz lim, q.str⟩)
    · cases h
  · rename_i o xs
    split at h
    · rename_i hf
      cases h
      obtain ⟨p, vs, rfl, hp, t⟩ := r.lst hf
      exact .inl ⟨p, vs, rfl, SqL.of hp, fun u nu => Res.lst q (cut_rs t) nu⟩
    · cases h
  · rename_i o xs
    cases h
    obtain ⟨p, vs, rfl, hp, t⟩ := r.tup'
    refine .inr (.inr ⟨p, vs, rfl, hp.sq, fun z => ?_, fun _ u nu => Res.tup hB q (cut_rs t) nu⟩)
    have e : cutD xs lo hi = xs := by
      unfold cutD
      rw [← t.len, z.1, z.2, List.drop_zero, Nat.sub_zero, t.len]
      exact List.take_of_length_le (Nat.le_refl _)
    rw [e] at q
    exact q.at (.tup hp t)
  · cases h
def fSl0 : List D → Option D
  | [c] => slD c none none
  | _ => none
def fSlA : List D → Option D
  | [c, .int i] => slD c (some i) none
  | _ => none
def fSlB : List D → Option D
  | [c, .int j] => slD c none (some j)
  | _ => none
def fSl2 : List D → Option D
  | [c, .int i, .int j] => slD c (some i) (some j)
  | _ => none
theorem ev_sl0 {ta : TE} {F : VA} (ha : AR K E ta F) : EV K E (tSl (uSl K) ta tNoPart tNoPart) (vOp fSl0 (vCons F vNil)) :=
  ev_op (r := fun vs H Q => match vs with | [x] => uSl K x none none H Q | _ => False) (al_cons ha al_nil) (fun B H vs ds d Q hB hr hf q => match ds, hr, hf with
    | [c], .cons r .nil, e => o_sl0 hB r e q) fun _ _ _ h => h
theorem ev_slA {ta tb : TE} {F G : VA} (ha : AR K E ta F) (hb : AR K E tb G) : EV K E (tSl (uSl K) ta (tPart tb) tNoPart) (vOp fSlA (v2 F G)) :=
  ev_op (r := fun vs H Q => match vs with | [x, y] => ∃ i, y = .int i ∧ uSl K x (some i) none H Q | _ => False) (al_cons ha (al_cons hb al_nil)) (fun B H vs ds d Q hB hr hf q => match ds, hr, hf with
    | [c, .int i], .cons r (.cons .int .nil), e => ⟨i, rfl, o_sl0 hB r e q⟩) fun _ _ _ h => h
theorem ev_slB {ta tb : TE} {F G : VA} (ha : AR K E ta F) (hb : AR K E tb G) : EV K E (tSl (uSl K) ta tNoPart (tPart tb)) (vOp fSlB (v2 F G)) :=
  ev_op (r := fun vs H Q => match vs with | [x, y] => ∃ i, y = .int i ∧ uSl K x none (some i) H Q | _ => False) (al_cons ha (al_cons hb al_nil)) (fun B H vs ds d Q hB hr hf q => match ds, hr, hf with
    | [c, .int i], .cons r (.cons .int .nil), e => ⟨i, rfl, o_sl0 hB r e q⟩) fun _ _ _ h => h
end EV

set_option Elab.async false
set_option linter.all false
set_option maxRecDepth 100000
set_option maxHeartbeats 2000000
/-! GG: promises of defs that are called where no repr is under way (Around.guards = some []); repr of data. -/
namespace L2
open PySem PySem.Spec PyProof.Rows
/-- as FnOk, for calls where no repr is under way -/
structure FnG (P : Program) (w : World) (K : PySem.W.Frag) (mg : Str → Option Value) (base : Heap) (CX : CXT) (k : Nat) (f : Addr) (fd : FuncData) (ps : List Str) (sp : Sp) : Prop where
  len : ∀ vs H Q E, sp vs H Q E → vs.length = ps.length
  run : ∀ (A : Around) (outer : List Env) (s : Shared) (H : Hp) (args : Args) (us : List Value) (vs : List V) (Q : VK) (E : XK), A.guards = some [] → Room k A → Env0 P w K mg base A outer s H → BindsTo s fd args (ps.zip us) → Vals vs us → sp vs H Q E →
    codeAny (model P w) A (.call (.ref f) args) (CR CX outer P w H s Q E) s
section
variable {P : Program} {w : World} {K : PySem.W.Frag} {mg : Str → Option Value} {base : Heap} {CX : CXT}
theorem FnG.mono {j k : Nat} {f : Addr} {fd : FuncData} {ps : List Str} {sp : Sp} (F : FnG P w K mg base CX j f fd ps sp) (h : j ≤ k) : FnG P w K mg base CX k f fd ps sp :=
  ⟨F.len, fun A outer s H args us vs Q E g hr => F.run A outer s H args us vs Q E g (hr.mono h)⟩
theorem FnOk.g {k : Nat} {f : Addr} {fd : FuncData} {ps : List Str} {sp : Sp} (F : FnOk P w K mg base CX k f fd ps sp) : FnG P w K mg base CX k f fd ps sp :=
  ⟨F.len, fun A outer s H args us vs Q E _ => F.run A outer s H args us vs Q E⟩
/-- a def by its body -/
theorem fnG_of {k : Nat} {f : Addr} {name qual : Str} {params : Arguments} {body : List Stmt} {scope : Scope} {dV kV doc pm cdv ct oc : Value} {an od : Option Addr}
    {osl : Array (Option Value)} {N ps : List Str} {sp : Sp} (lk : K.lookup f = some ⟨oc, od, .func (PySem.W.fnOf name qual params body scope dV kV doc pm an cdv ct), osl⟩) (hcd : PySem.W.codeIn K cdv qual = true) (S : FnScope N ps scope)
    (len : ∀ vs H Q E, sp vs H Q E → vs.length = ps.length)
    (hbody : ∀ (A : Around) (outer : List Env) (s : Shared) (H : Hp) (vs : List V) (Q : VK) (E : XK), A.guards = some [] → Room k (A.deeper (envOfC qual scope s.heap.objs.size f cdv)) → sp vs H Q E →
      ∃ t, PSs (cxOf CX P w K mg base N qual scope f cdv A outer s H E) body t ∧ t { nx := fun _ H' => Q .non H', rt := Q } (start N vs) H) :
    FnG P w K mg base CX (k + 1) f (PySem.W.fnOf name qual params body scope dV kV doc pm an cdv ct) ps sp where
  len := len
  run := fun A outer s H args us vs Q E hgs hr e0 hb r hsp => by
    have up : ∀ b o, base.get? b = some o → s.heap.get? b = some o := fun b o e => (e0.bs b o e).1
    have kin : K.In s.heap := e0.mod.kin.keeps up
    refine codeAny_call_function hr.depth (kin _ _ lk) rfl S.co S.gen rfl (PySem.W.codeRec_of kin hcd) (hb _ _ _ _ ?_)
    refine wpAny_newFunctionEnv_cells S.kind (fun y hy => ?_) fun env he s1 x => ?_
    · rcases S.par y.1 (List.of_mem_zip hy).1 with q | q
      · exact .inl q
      · exact .inr ⟨q, PySem.W.cellsFrom_some _ _ _ (.inl q)⟩
    subst he
    refine ⟨(e0.mod.nolimit.keeps up).keeps x.toInCall.keep, codeAny_func ?_⟩
    obtain ⟨t, ht, hq⟩ := hbody A outer s H vs Q E hgs (hr.deeper _) hsp
    have I := inv_start (CX := CX) (E := E) S hr.hd e0 (len _ _ _ _ hsp) r x
    refine wpAny_mono (ht.run [] s1 (start N vs) H _ I hq) (fun fl s' hs => ?_) fun e s' hs => hs
    match fl, hs with
    | .ret u, ⟨v, σ', H', J, rv, q⟩ => exact ⟨v, H', J.os, J.bare, J.base, J.hok, rv, q⟩
    | .next, ⟨σ', H', J, q⟩ => exact ⟨V.non, H', J.os, J.bare, J.base, J.hok, rfl, q⟩
    | .brk, ⟨_, _, _, q⟩ => exact False.elim q
    | .cont, ⟨_, _, _, q⟩ => exact False.elim q
theorem Fun.okG {x qual : Str} {st : Stmt} {f : Addr} {fd : FuncData} {N ps : List Str} {k : Nat} {sp : Sp} (F : Fun K x qual st f fd) (S : FnScope N ps (defScope st)) (len : ∀ vs H Q E, sp vs H Q E → vs.length = ps.length)
    (hbody : ∀ (cdv : Value) (A : Around) (outer : List Env) (s : Shared) (H : Hp) (vs : List V) (Q : VK) (E : XK), A.guards = some [] → Room k (A.deeper (envOfC qual (defScope st) s.heap.objs.size f cdv)) → sp vs H Q E →
      ∃ t, PSs (cxOf CX0 P w K mg base N qual (defScope st) f cdv A outer s H E).nox (defBody st) t ∧ t { nx := fun _ H' => Q .non H', rt := Q } (start N vs) H) : FnG P w K mg base CX0 (k + 1) f fd ps sp := by
  obtain ⟨oc, od, kV, doc, pm, an, cdv, ct, osl, rfl, lk, hcd⟩ := F.ex
  refine fnG_of lk hcd S len fun A outer s H vs Q E hg hr hsp => ?_
  obtain ⟨t, h, q⟩ := hbody cdv A outer s H vs Q E hg hr hsp
  exact ⟨t, h.nox, q⟩
theorem Fun.okGX {x qual : Str} {st : Stmt} {f : Addr} {fd : FuncData} {N ps : List Str} {k : Nat} {sp : Sp} (F : Fun K x qual st f fd) (S : FnScope N ps (defScope st)) (len : ∀ vs H Q E, sp vs H Q E → vs.length = ps.length)
    (hbody : ∀ (cdv : Value) (A : Around) (outer : List Env) (s : Shared) (H : Hp) (vs : List V) (Q : VK) (E : XK), A.guards = some [] → Room k (A.deeper (envOfC qual (defScope st) s.heap.objs.size f cdv)) → sp vs H Q E →
      ∃ t, PSs (cxOf CX P w K mg base N qual (defScope st) f cdv A outer s H E) (defBody st) t ∧ t { nx := fun _ H' => Q .non H', rt := Q } (start N vs) H) : FnG P w K mg base CX (k + 1) f fd ps sp := by
  obtain ⟨oc, od, kV, doc, pm, an, cdv, ct, osl, rfl, lk, hcd⟩ := F.ex
  exact fnG_of lk hcd S len fun A outer s H vs Q E hg hr hsp => hbody cdv A outer s H vs Q E hg hr hsp
end
section
variable {X : Cx} {CX : CXT} {k : Nat} {f : Addr} {fd : FuncData} {ps : List Str} {sp : Sp} {dvs : List V} {ds : List Value} {E : XK} {x : Str} {p pos : Pos} {e : Expr} {es : List Expr} {t : TA}
theorem run_fnG {pins : List (Addr × Obj)} {σ : St} {H : Hp} {s : Shared} {Q : VK} {us : List Value} {vs : List V} (F : FnG X.prog X.w X.K X.mg X.base CX k f fd ps sp) (hgs : X.A.guards = some []) (hr : Room k X.A) (hb : Binds X.K fd ps ds) (hd : Vals dvs ds) (hx : Passes CX X E)
    (I : Inv X pins σ H s) (r : Vals vs us) (h : sp (vs ++ dvs) H Q E) : wpAny (model X.prog X.w) X.A (call (.ref f) us) (EP X pins σ Q) X.xe s := by
  have r2 := r.append hd
  refine wpAny_call (codeAny_mono (F.run X.A X.stack s H ⟨us, []⟩ (us ++ ds) (vs ++ dvs) Q E hgs hr I.env0 (hb s us I.kIn (r2.length.symm.trans (F.len _ _ _ _ h))) r2 h) fun r s' hq => ?_)
  match r, hq with
  | .error e, hq => exact hx pins σ H s e s' I hq
  | .ok (.ret u), hq => exact I.after hq
  | .ok .next, hq => exact False.elim hq
  | .ok .brk, hq => exact False.elim hq
  | .ok .cont, hq => exact False.elim hq
theorem pe_callG (F : FnG X.prog X.w X.K X.mg X.base CX k f fd ps sp) (hgs : X.A.guards = some []) (hr : Room k X.A) (hg : Gl X x) (hm : X.mg x = some (.ref f)) (hk : PySem.W.keepIn X.K (.ref f) = true) (hb : Binds X.K fd ps ds) (hd : Vals dvs ds) (hx : Passes CX X E)
    (ha : PA X (e :: es) t) (hdb : (x == ("__debug__" : Str)) = false := by decide) (he : starEach (e :: es) X.env = (false, eval e X.env) :: starEach es X.env := by rfl) (hpl : (backTo pos (starEach es X.env)).any (·.1) = false := by rfl) :
    PE X (.Call (.Name x p) (e :: es) [] pos) (tCall sp dvs E t) := by
  refine ⟨fun pins s σ H Q I h => ?_⟩
  refine wpAny_Call_Name_kw (ld_glob I hg hm ?_ hdb)
  exact PySem.W.callWith_K (h₀ := X.base) I.ok.mod.kin hk (thn (ha.run pos pins s σ H _ I h) fun us s1 ⟨vs, H1, I1, r, q⟩ => ⟨I1.kIn, run_fnG F hgs hr hb hd hx I1 r q⟩) he hpl
end
end L2

set_option Elab.async false
set_option linter.all false
set_option maxRecDepth 100000
set_option maxHeartbeats 2000000
namespace L2
open PySem PySem.Spec PyProof.Rows
/-- the law's call, by a promise that holds where no repr is under way -/
theorem law_callG {P : Program} {w : World} {K : PySem.W.Frag} {mg mb : Str → Option Value} {CX : CXT} {k : Nat} {fa a : Addr} {fd : FuncData} {x : Str} {sp : Sp} {s₁ : Shared} {vs : List Value} {ns : List Int}
    (KX : K.In s₁.heap) (hns : s₁.heap.Ns mainGlobals mg) (hb : s₁.heap.Ns builtinsNs mb) (hbb : ∀ x : Str, x ≠ "__name__" → mb x = bootBuiltins x) (hlim : s₁.heap.NoLimit) (hg : s₁.gens = #[])
    (ha : s₁.heap.get? a = some { cls := .type "list", data := .seq vs.toArray }) (hi : IntsAre vs ns) (hl : ns.length ≤ sizeLine) (hr : Room k callerA)
    (F : ∀ base : Heap, K.In base → base.Ns mainGlobals mg → FnG P w K mg base CX k fa fd [x] sp) (hbind : ∀ (s : Shared) (u : Value), BindsTo s fd ⟨[u], []⟩ [(x, u)])
    (hsp : ∀ H : Hp, Only H → SqL K H a (ns.map V.int) → sp [.ref a] H (fun v _ => v = .bl true) fun _ _ _ => False)
    (hCX : ∀ H e s', CX [] H s₁ (fun _ _ _ => False) e s' → False) :
    codeAny (model P w) callerA (.call (.ref fa) ⟨[.ref a], []⟩) (fun r s' => r = .ok (.ret (.bool true)) ∧ OldK s₁.heap s'.heap ∧ s'.os = s₁.os ∧ AllBare s'.gens) s₁ := by
  have rv := vals_ints hi
  -- H: nothing is tracked but the script, perhaps
  have main : ∀ H : Hp, Only H → SqL K H a (ns.map V.int) → HOk P w H s₁.heap → (∀ b, H b ≠ none → b = a ∧ K.lookup a = none) →
      codeAny (model P w) callerA (.call (.ref fa) ⟨[.ref a], []⟩) (fun r s' => r = .ok (.ret (.bool true)) ∧ OldK s₁.heap s'.heap ∧ s'.os = s₁.os ∧ AllBare s'.gens) s₁ := by
    intro H hO hS hok hA
    have nD : ∀ {b : Addr} {o : Obj} {es : Array DictEntry} {ep : Nat}, s₁.heap.get? b = some o → o.data = .dict es ep → H b = none := fun {b o es ep} e d => by
      refine Classical.byContradiction fun n => ?_
      obtain ⟨rfl, _⟩ := hA b n
      rw [ha] at e
      cases e
      exact nomatch d
    have nK : ∀ {b : Addr} {o : Obj}, K.lookup b = some o → H b = none := fun {b o} e => by
      refine Classical.byContradiction fun n => ?_
      obtain ⟨rfl, z⟩ := hA b n
      rw [z] at e
      cases e
    have ns' : ∀ {b : Addr} {m : Str → Option Value}, s₁.heap.Ns b m → (hidT s₁.heap H).Ns b m := fun {b m} ⟨o, es, ep, e, d, r⟩ => ⟨o, es, ep, hidT_get e (nD e d), d, r⟩
    have kin : K.In (hidT s₁.heap H) := fun b o e => hidT_get (KX b o e) (nK e)
    have md : Mod K mg (hidT s₁.heap H) := by
      obtain ⟨mc, h1, h2⟩ := hlim
      exact ⟨kin, ns' hns, ⟨mb, ns' hb, hbb⟩, ⟨mc, ns' h1, h2⟩⟩
    have e0 : Env0 P w K mg (hidT s₁.heap H) callerA [] s₁ H := ⟨rfl, md, fun b o e => of_hidT e, Nat.le_of_eq (hidT_size _ _), trivial, fun b z => by simp [frs] at z, hok, .of_eq hg⟩
    refine codeAny_mono ((F _ kin (ns' hns)).run callerA [] s₁ H ⟨[.ref a], []⟩ [.ref a] [.ref a] _ _ rfl hr e0 (hbind s₁ (.ref a)) (.cons rfl .nil) (hsp H hO hS)) fun r s' h => ?_
    match r, h with
    | .error e, h => exact (hCX H e s' h).elim
    | .ok .next, h => exact False.elim h
    | .ok .brk, h => exact False.elim h
    | .ok .cont, h => exact False.elim h
    | .ok (.ret u), ⟨v, H', os, bare, un, hok', r', q⟩ =>
      obtain rfl : v = .bl true := q
      obtain rfl : u = Value.bool true := r'
      refine ⟨rfl, OldK.of_keep fun b o e => ?_, os, bare⟩
      cases q : H b with
      | none => exact un.keep b o e q (by simp [frs]) (by simp)
      | some u =>
        rcases hO b with z | ⟨ob, xs, z⟩
        · rw [q] at z; cases z
        · have e1 := (hok b _ z).1
          rw [e] at e1
          cases e1
          exact (hok' b _ (un.frzs b _ _ z)).1
  cases hk : K.lookup a with
  | some o =>
    have e := KX a o hk
    rw [ha] at e
    cases e
    refine main (fun _ => none) (fun _ => .inl rfl) (.inr ⟨_, vs.toArray, _, hk, rfl, rfl, rfl, by rw [List.size_toArray, hi.length]; exact hl, by simpa using rv⟩) (fun b u z => nomatch z) fun b z => absurd rfl z
  | none =>
    refine main (fun b => if b = a then some (.frz { cls := .type "list", data := .seq vs.toArray } (.lst (ns.map V.int))) else none) (fun b => ?_) (.inl (.inr ⟨_, if_pos rfl⟩)) (fun b u z => ?_) fun b z => ⟨?_, hk⟩
    · by_cases hb : b = a
      · exact .inr ⟨_, _, if_pos hb⟩
      · exact .inl (if_neg hb)
    · by_cases hb : b = a
      · have z' := (if_pos hb).symm.trans z
        cases z'
        subst hb
        exact ⟨ha, by rw [List.length_map]; exact hl, vs, _, rv, ha⟩
      · exact absurd ((if_neg hb).symm.trans z) (fun y => nomatch y)
    · exact Classical.byContradiction fun hb => z (if_neg hb)
/-- the goal that k_head leaves, from the law's promise -/
theorem walk_ofG {l : PySem.W.OpenLaw} {n k : Nat} {q : Program} {loose : List Str} {XP : (Str → Option Value) → Heap → Prop} {YP : World → Heap → Prop} {d : DefRec} {K : Params → PySem.W.Frag} {sp : PySem.W.Frag → Sp} {x : Str}
    (hn : l.most = some n) (hn2 : n ≤ sizeLine) (hdf : d.params.defaults = []) (hr : Room k callerA)
    (hY : ∀ (w : World) (h : Heap), YP w h → (K w.params).In h)
    (F : ∀ (w : World) (mg : Str → Option Value) (fa : Addr) (h : Heap), (K w.params).In h → h.Ns mainGlobals mg → mg d.name = some (.ref fa) →
      ∃ fd : FuncData, (∀ (s : Shared) (u : Value), BindsTo s fd ⟨[u], []⟩ [(x, u)]) ∧
        ∀ base : Heap, (K w.params).In base → base.Ns mainGlobals mg → FnG l.prog w (K w.params) mg base CX0 k fa fd [x] (sp (K w.params)))
    (hsp : ∀ (K : PySem.W.Frag) (H : Hp) (a : Addr) (ns : List Int), ns.length ≤ n → Only H → SqL K H a (ns.map V.int) → sp K [.ref a] H (fun v _ => v = .bl true) fun _ _ _ => False) :
    PySem.W.WalkO q loose XP YP l.row.toRowW d [] (fun f vs => PySem.call f vs) := by
  refine Att.attach_call hn hdf fun w s₀ s₁ mg mb fa o pm cd doc a vs ns G Y ho hd hcd hmg hobj hints hlen hg => ?_
  have KX := hY w _ Y
  obtain ⟨fd, hb, hF⟩ := F w mg fa _ KX G.T.g hmg
  exact law_callG KX G.T.g G.T.b G.T.builtins G.T.nolimit hg hobj hints (Nat.le_trans hlen hn2) hr hF hb (fun H hO hS => hsp _ H a ns hlen hO hS) fun H e s' z => z

/-! ### repr of data -/
section
variable {X : Cx}
/-- repr(x), x data of any depth -/
def rRepr (K : PySem.W.Frag) : List V → Hp → VK → Prop := fun xs H Q => ∃ v d, xs = [v] ∧ Dp K H v d ∧ d.showable = true ∧ d.hasDict = false ∧ d.depth ≤ 60 ∧ d.shown.length ≤ sizeLine ∧ Q (.str d.shown) H
theorem call_reprD (hg : X.A.guards = some []) (hu : X.A.units + 64 < cLine) : CallR X (.builtin "repr") (rRepr X.K) := by
  intro pins s σ H xs us Q I r h
  obtain ⟨v, d, rfl, hd, hs, hn, hz, hl, q⟩ := h
  cases r with
  | cons rv rr =>
    rename_i u us'
    cases rr
    obtain ⟨as, rd⟩ := Dp.reads I d v u hd rv
    cases hd with
    | non =>
      cases rv
      rw [PyData.shown_none] at q
      exact PySem.P.repr_of_none ⟨.str _, H, I.tok _, ⟨_, rfl⟩, q⟩
    | bl b =>
      cases rv
      rw [PyData.shown_bool] at q
      exact PySem.P.repr_of_bool ⟨.str _, H, I.tok _, ⟨_, rfl⟩, by cases b <;> exact q⟩
    | int i =>
      obtain ⟨t, rfl⟩ := rv
      rw [PyData.shown_int] at q
      have hs' : i.natAbs.log2 < 1920 := of_decide_eq_true (by simpa only [PyData.showable] using hs)
      exact PySem.P.repr_of_int hs' ⟨.str _, H, I.tok _, ⟨_, rfl⟩, q⟩
    | str x =>
      obtain ⟨t, rfl⟩ := rv
      rw [PyData.shown_str] at q hl
      exact PySem.P.repr_of_str ⟨.str _, H, I.tok _, ⟨_, rfl⟩, q⟩ hl
    | lst hS hA =>
      cases rv
      exact repr_of_reads' rd hs (PyData.noDict_hsm hn) hg (by omega) (fun _ _ e => e) (fun h' u tk k => ⟨.str _, H, I.kept (t' := tk) k, ⟨_, rfl⟩, q⟩) hl
    | tup hS hA =>
      cases rv
      exact repr_of_reads' rd hs (PyData.noDict_hsm hn) hg (by omega) (fun _ _ e => e) (fun h' u tk k => ⟨.str _, H, I.kept (t' := tk) k, ⟨_, rfl⟩, q⟩) hl
end
end L2

set_option Elab.async false
set_option linter.all false
set_option maxRecDepth 100000
set_option maxHeartbeats 2000000
/-! GD: defs by their names. -/
namespace L2
open PySem PySem.Spec PyProof.Rows
/-- a def of the text stands under its name -/
def Def (K : PySem.W.Frag) (mg : Str → Option Value) (x : Str) (st : Stmt) : Prop := ∃ f fd, Fun K x x st f fd ∧ mg x = some (.ref f)
theorem def_mk {K : PySem.W.Frag} {h : Heap} {mg : Str → Option Value} {x : Str} {st : Stmt} {f : Addr} {oc : Value} {od an : Option Addr} {osl : Array (Option Value)} {kV doc pm cdv ct : Value} (X : K.In h) (G : h.Ns mainGlobals mg)
    (a : PySem.W.nsIn K mainGlobals x = some (some (.ref f))) (l : K.lookup f = some ⟨oc, od, .func (PySem.W.fnOf x x (defArgs st) (defBody st) (defScope st) .none kV doc pm an cdv ct), osl⟩)
    (c : PySem.W.codeIn K cdv x = true) (k : PySem.W.keepIn K (.ref f) = true) : Def K mg x st := ⟨f, _, fun_mk (st := st) l c k, PySem.W.mg_of X G a⟩
/-- the name x holds a def that keeps the promise sp -/
def HasFn (P : Program) (w : World) (K : PySem.W.Frag) (mg : Str → Option Value) (base : Heap) (CX : CXT) (k : Nat) (x : Str) (ps : List Str) (sp : Sp) : Prop :=
  ∃ f fd, FnOk P w K mg base CX k f fd ps sp ∧ mg x = some (.ref f) ∧ PySem.W.keepIn K (.ref f) = true ∧ Binds K fd ps []
def HasG (P : Program) (w : World) (K : PySem.W.Frag) (mg : Str → Option Value) (base : Heap) (CX : CXT) (k : Nat) (x : Str) (ps : List Str) (sp : Sp) : Prop :=
  ∃ f fd, FnG P w K mg base CX k f fd ps sp ∧ mg x = some (.ref f) ∧ PySem.W.keepIn K (.ref f) = true ∧ Binds K fd ps []
def tCallO (sp : Sp) (E : XK) (t : TA) : TE := fun σ H Q => t σ H fun vs H1 => sp vs H1 Q E
section
variable {X : Cx} {CX : CXT} {j k : Nat} {ps : List Str} {sp : Sp} {E : XK} {x : Str} {p pos : Pos} {e : Expr} {es : List Expr} {t : TA}
theorem pe_callO (O : HasFn X.prog X.w X.K X.mg X.base CX k x ps sp) (hr : Room j X.A) (hg : Gl X x) (hx : Passes CX X E) (ha : PA X (e :: es) t) (hjk : k ≤ j := by decide)
    (hdb : (x == ("__debug__" : Str)) = false := by decide) (he : starEach (e :: es) X.env = (false, eval e X.env) :: starEach es X.env := by rfl) (hpl : (backTo pos (starEach es X.env)).any (·.1) = false := by rfl) :
    PE X (.Call (.Name x p) (e :: es) [] pos) (tCallO sp E t) := by
  obtain ⟨f, fd, F, hm, hk, hb⟩ := O
  have q := pe_call (E := E) (dvs := []) (ds := []) (p := p) (pos := pos) F (hr.mono hjk) hg hm hk hb .nil hx ha hdb he hpl
  refine ⟨fun pins s σ H Q I h => q.run pins s σ H Q I ?_⟩
  have e : (fun (vs : List V) H1 => sp (vs ++ []) H1 Q E) = fun vs H1 => sp vs H1 Q E := by
    funext vs H1
    rw [List.append_nil]
  show t σ H (fun vs H1 => sp (vs ++ []) H1 Q E)
  rw [e]
  exact h
theorem pe_callOG (O : HasG X.prog X.w X.K X.mg X.base CX k x ps sp) (hgs : X.A.guards = some []) (hr : Room j X.A) (hg : Gl X x) (hx : Passes CX X E) (ha : PA X (e :: es) t) (hjk : k ≤ j := by decide)
    (hdb : (x == ("__debug__" : Str)) = false := by decide) (he : starEach (e :: es) X.env = (false, eval e X.env) :: starEach es X.env := by rfl) (hpl : (backTo pos (starEach es X.env)).any (·.1) = false := by rfl) :
    PE X (.Call (.Name x p) (e :: es) [] pos) (tCallO sp E t) := by
  obtain ⟨f, fd, F, hm, hk, hb⟩ := O
  have q := pe_callG (E := E) (dvs := []) (ds := []) (p := p) (pos := pos) F hgs (hr.mono hjk) hg hm hk hb .nil hx ha hdb he hpl
  refine ⟨fun pins s σ H Q I h => q.run pins s σ H Q I ?_⟩
  have e : (fun (vs : List V) H1 => sp (vs ++ []) H1 Q E) = fun vs H1 => sp vs H1 Q E := by
    funext vs H1
    rw [List.append_nil]
  show t σ H (fun vs H1 => sp (vs ++ []) H1 Q E)
  rw [e]
  exact h
end
end L2

set_option Elab.async false
set_option linter.all false
set_option maxRecDepth 100000
set_option maxHeartbeats 2000000
/-! XS: own exception classes over ValueError or KeyError (also through a class of the program) whose __init__ says super().__init__(text) and stores its parameters. -/
namespace PySem
namespace XS
open PySem.W PySem.Calls PyProof.Rows PySem.HandSPX
abbrev veT : List Value := [.type "ValueError", .type "Exception", .type "BaseException", .type "object"]
abbrev keT : List Value := [.type "KeyError", .type "LookupError", .type "Exception", .type "BaseException", .type "object"]
/-- the built-in below: who makes (Bn), who sets up (B), the classes above -/
structure Bas (Bn newId iN : String) (bmN : List Value) (B initId : String) (bmB : List Value) : Prop where
  nb : ExcBaseFacts Bn newId iN bmN
  hB : bmB.contains (.type Bn) = true
  hA : bmB.contains (.type "AttributeError") = false
  hN : bmB.contains (.type "NameError") = false
  sf : StoreFacts B bmB "object.__setattr__" "object"
  kx : KxsFacts B initId
  ik : builtinKind initId = some .slot
  ir : Manifest.signature? initId = some ⟨.positional, "*", B, .self, [⟨"args", .varPos, false⟩]⟩
  ns : (B != "*") = true
  ipl : plainId initId = true
  ien : entryFor table initId = some Builtin.«BaseException.__init__»
theorem bas_VE : Bas "ValueError" "ValueError.__new__" "ValueError.__init__" veT "ValueError" "ValueError.__init__" veT where
  nb := F.excBase_ValueError
  hB := by decide +kernel
  hA := by decide +kernel
  hN := by decide +kernel
  sf := F.store_ValueError
  kx := kxs_ValueError
  ik := by kernel_rfl
  ir := by kernel_rfl
  ns := by decide +kernel
  ipl := by decide +kernel
  ien := F.excBase_ValueError.initEntry
theorem sto_KE : StoreFacts "KeyError" keT "object.__setattr__" "object" where
  mro := by kernel_rfl
  slot := .of (owner := "object") (n := "__setattr__") (by rw [typeLookup_type, builtinLookup_eq_fast]; kernel_rfl) (by decide +kernel) (by decide +kernel) (by decide +kernel)
    (by first | exact .inl (by decide +kernel) | exact .inr (by decide +kernel)) (by rw [isSubtype_type]; kernel_rfl)
  entry := F.store_ValueError.entry
  kind := by decide +kernel
  split := by decide +kernel
  hasOwner := by decide +kernel
  args := fun a b c => by unfold argsOk; kernel_rfl
  passes := fun self => by kernel_rfl
theorem bas_KE : Bas "LookupError" "LookupError.__new__" "LookupError.__init__" [.type "LookupError", .type "Exception", .type "BaseException", .type "object"] "KeyError" "KeyError.__init__" keT where
  nb := F.excBase_LookupError
  hB := by decide +kernel
  hA := by decide +kernel
  hN := by decide +kernel
  sf := sto_KE
  kx := ⟨by show builtinType _ = _; rw [builtinType_eq_fast]; kernel_rfl, by first | kernel_rfl | rfl⟩
  ik := by kernel_rfl
  ir := by kernel_rfl
  ns := by decide +kernel
  ipl := by decide +kernel
  ien := PyProof.Rows.excClass_KeyError.initEntry

/-! ### making -/
section
variable {prog : Program} {w : World} {M : Model} {A : Around} {E : Value → Shared → Prop} {R : Result → Shared → Prop} {h : Heap} {g : Array GenState} {d : Drawn} {t : Nat} {os : OsState}
variable {nm q : Str} {C N : Addr} {bs bm bmN bmB : List Value} {hdct : Bool} {sn : List Str} {sub : List Value} {ab : Bool} {col : Option Bool} {dd : Option Addr} {k0 k1 k2 k3 k5 : Option Value} {Bn newId iN B initId : String}
theorem chk_new (T : Bas Bn newId iN bmN B initId bmB) (hT : ∀ X : String, bm.contains (.type X) = bmB.contains (.type X)) {rest : List Value} {Q : Unit → Shared → Prop}
    (hC : h.get? C = some (excClassObj nm q C N bs bm hdct sn sub ab col dd k0 k1 k2 k3 k5 newId)) (hq : Q () ⟨h, g, d, t, os⟩) :
    wpAny M A (checkBuiltinCall newId ⟨.ref C :: rest, []⟩) Q E ⟨h, g, d, t, os⟩ := by
  have c0 : (Value.ref C :: bm).contains (.type Bn) = true := by rw [List.contains_cons, hT, T.hB, Bool.or_true]
  have st := T.nb.noStar
  simp only [checkBuiltinCall, T.nb.newKind, T.nb.newSplit, T.nb.newRow]
  repeat (first
    | refine wpAny_loadPart_at hC ?_
    | (refine wpAny_isSubtype_exc hC ?_; rw [c0])
    | refine wpAny_staticBase_exc hC ?_
    | refine wpAny_madeBy_exc hC ?_
    | simp only [bne_self_eq_false, Bool.false_eq_true, if_false]
    | wp_step)
  exact hq
theorem run_new (T : Bas Bn newId iN bmN B initId bmB) (hT : ∀ X : String, bm.contains (.type X) = bmB.contains (.type X)) {rest : List Value}
    (hC : h.get? C = some (excClassObj nm q C N bs bm hdct sn sub ab col dd k0 k1 k2 k3 k5 newId)) (hz : rest.length ≤ sizeLine)
    (hq : R (.ok (.ret (.ref (h.objs.size + 1)))) ⟨(h.push (kdv_tup rest)).push (excO C h.objs.size), g, d, t, os⟩) :
    codeAny (model prog w) A (.builtin newId ⟨.ref C :: rest, []⟩) R ⟨h, g, d, t, os⟩ := by
  have en := T.nb.ends
  have cB : (Value.ref C :: bm).contains (.type Bn) = true := by rw [List.contains_cons, hT, T.hB, Bool.or_true]
  have cA : (Value.ref C :: bm).contains (.type "AttributeError") = false := by rw [List.contains_cons, hT, T.hA]; rfl
  have cN : (Value.ref C :: bm).contains (.type "NameError") = false := by rw [List.contains_cons, hT, T.hN]; rfl
  refine codeAny_builtinAt T.nb.entry ?_
  unfold Builtin.«BaseException.__new__»
  refine wpAt_bind ?_
  show wpAt _ _ _ (stack >>= _) _ _ _
  refine wpAt_bind (wpAt_stack fun p below => wpAt_of_wpAny ?_)
  wp_walk
  refine wpAt_of_wpAny ?_
  rw [T.nb.owner]
  repeat (first
    | with_reducible refine wpAny_madeHere_exc T.nb.canon hC ?_
    | with_reducible refine wpAny_loadPart_at hC ?_
    | (with_reducible refine wpAny_isSubtype_exc hC ?_; first | rw [cB] | rw [cA] | rw [cN])
    | wp_step)
  show R _ _
  rw [Heap.size_push]
  exact hq
theorem run_type (T : Bas Bn newId iN bmN B initId bmB) (hT : ∀ X : String, bm.contains (.type X) = bmB.contains (.type X)) {rest : List Value} {fI : Addr} {Q : Fin → Shared → Prop}
    (hC : h.get? C = some (excClassObj nm q C N bs bm hdct sn sub ab col dd k0 k1 k2 k3 k5 newId))
    (hi : W.Looks (model prog w) h (typeLookup (.ref C) "__init__") (some (.ref fI))) (hb : ∀ self, W.Looks (model prog w) h (bindSpecial (.ref fI) self) (.ref fI, [self])) (hz : rest.length ≤ sizeLine)
    (hq : codeAny (model prog w) A (.call (.ref fI) ⟨.ref (h.objs.size + 1) :: rest, []⟩)
      (fun r s' => match r with | .ok (.ret v) => v = .none ∧ Q (.done (.ret (.ref (h.objs.size + 1)))) s' | .ok _ => False | .error e => E e s')
      ⟨(h.push (kdv_tup rest)).push (excO C h.objs.size), g, d, t, os⟩) :
    wpAny (model prog w) A (Builtin.«type.__call__» ⟨.ref C :: rest, []⟩) Q E ⟨h, g, d, t, os⟩ := by
  have cC : (Value.ref C :: bm).contains (.ref C) = true := by simp
  have up : ∀ b o, h.get? b = some o → ((h.push (kdv_tup rest)).push (excO C h.objs.size)).get? b = some o := fun b o e => Heap.get?_push_of_some _ (Heap.get?_push_of_some _ e)
  have hC' := up _ _ hC
  have he : ((h.push (kdv_tup rest)).push (excO C h.objs.size)).get? (h.objs.size + 1) = some (excO C h.objs.size) := by heap_get
  have i1 := hi.keeps up
  have b1 := (hb (.ref (h.objs.size + 1))).keeps up
  repeat (first | with_reducible refine wpAny_loadPart_at hC ?_ | with_reducible refine wpAny_madeBy_exc hC ?_ | wp_step)
  refine codeAny_call_builtin_code (Code.quiet_builtin _ T.nb.quiet) (chk_new T hT hC (run_new T hT hC hz ?_))
  show wpAny _ _ _ _ _ _
  unfold isInstance
  repeat (first | with_reducible refine wpAny_loadPart_at he ?_ | (with_reducible refine wpAny_isSubtype_exc hC' ?_; rw [cC]) | wp_step)
  show wpAny _ _ (typeLookup (.ref C) _) _ _ _
  refine i1.at (wpAny_holding (wpAny_bind (b1.at ?_)))
  refine wpAny_bind (wpAny_call (codeAny_mono hq fun r s' z => ?_))
  rcases r with e | (v | _ | _ | _) <;> first | exact z | exact z.elim | skip
  obtain ⟨rfl, z⟩ := z
  first
    | exact wpAny_pure (wpAny_pure z)
    | (wp_walk; exact z)
theorem run_call (T : Bas Bn newId iN bmN B initId bmB) (hT : ∀ X : String, bm.contains (.type X) = bmB.contains (.type X)) {rest : List Value} {fI : Addr}
    (hC : h.get? C = some (excClassObj nm q C N bs bm hdct sn sub ab col dd k0 k1 k2 k3 k5 newId))
    (hi : W.Looks (model prog w) h (typeLookup (.ref C) "__init__") (some (.ref fI))) (hb : ∀ self, W.Looks (model prog w) h (bindSpecial (.ref fI) self) (.ref fI, [self])) (hz : rest.length ≤ sizeLine)
    (hq : codeAny (model prog w) (A.under (.builtin "type.__call__" ⟨.ref C :: rest, []⟩)) (.call (.ref fI) ⟨.ref (h.objs.size + 1) :: rest, []⟩) (W.InitBack (h.objs.size + 1) R)
      ⟨(h.push (kdv_tup rest)).push (excO C h.objs.size), g, d, t, os⟩) :
    codeAny (model prog w) A (.call (.ref C) ⟨rest, []⟩) R ⟨h, g, d, t, os⟩ := by
  have f1 := tc_lookup
  have f2 := tc_bind (.ref C)
  have ty : (⟨h, g, d, t, os⟩ : Shared).TypeIs (.ref C) "type" := ⟨_, hC, rfl⟩
  refine codeAny_of_tree ?_
  show wpAny _ _ (callAny (.ref C) _) _ _ _
  repeat (any_goals (first | assumption | with_reducible refine wpAny_loadPart_at hC ?_ | wp_step))
  refine ⟨rfl, codeAny_call_builtin_at (Code.quiet_builtin _ (by decide +kernel)) entry_typeCall (wpAny_check_type_call_sub hC (run_type T hT hC hi hb hz (codeAny_mono hq fun r s' z => ?_)))⟩
  rcases r with e | (v | _ | _ | _) <;> exact z

/-! ### super().__init__(text): the wrapper called -/
theorem chk_bound (T : Bas Bn newId iN bmN B initId bmB) {e : Addr} {oe : Obj} {rest : List Value} {Q : Unit → Shared → Prop}
    (hC : h.get? C = some (excClassObj nm q C N bs bm hdct sn sub ab col dd k0 k1 k2 k3 k5 newId)) (he : h.get? e = some oe) (hcls : oe.cls = .ref C) (hq : Q () ⟨h, g, d, t, os⟩) :
    wpAny M A (checkBoundCall initId ⟨.ref e :: rest, []⟩) Q E ⟨h, g, d, t, os⟩ := by
  have st := T.ns
  simp only [checkBoundCall, T.ik, T.ir]
  repeat (first | (with_reducible refine wpAny_loadPart_at he ?_; rw [hcls]) | with_reducible refine wpAny_loadPart_at hC ?_ | wp_step)
  refine wpAny_onRaise ?_
  have c : ∀ (a b : String) (n : Nat), Bind.check ⟨.positional, "*", B, .self, [⟨"args", .varPos, false⟩]⟩ a b n (List.map (fun x => x.fst) ({ pos := Value.ref e :: rest } : Args).kw) = pure () := fun a b n => check_star_args _ _ _ _ _ _
  rw [c]
  exact wpAny_pure hq
theorem call_mw (T : Bas Bn newId iN bmN B initId bmB) {u e t0 : Addr} {rest : List Value} {Q : Value → Shared → Prop}
    (hC : h.get? C = some (excClassObj nm q C N bs bm hdct sn sub ab col dd k0 k1 k2 k3 k5 newId)) (he : h.get? e = some (excO C t0)) (hu : h.get? u = some (kxs_mw initId e)) (hz : rest.length ≤ sizeLine)
    (hq : ∀ h', (∀ b o, b ≠ e → h.get? b = some o → h'.get? b = some o) → h'.get? e = some (excO C h.objs.size) → Q .none ⟨h', g, d, t, os⟩) :
    wpAny (model prog w) A (call (.ref u) rest) Q E ⟨h, g, d, t, os⟩ := by
  refine wpAny_call (codeAny_of_tree ?_)
  show wpAny _ A.in1 (callAny (.ref u) ⟨rest, []⟩) _ _ _
  simp only [callAny]
  refine wpAny_bind (wpAny_load hu ?_)
  simp only [kxs_mw, show (Value.type "method-wrapper" == Value.type "method" || Value.type "method-wrapper" == Value.type "builtin_function_or_method" || Value.type "method-wrapper" == Value.type "method-wrapper") = true by decide, if_true]
  refine KFB.if_so (by decide) ?_
  refine wpAny_bind (chk_bound T hC he rfl (wpAny_bind (wpAny_pure (wpAny_pure ⟨plainId_quiet T.ipl _, codeAny_builtin T.ien ?_⟩))))
  exact exc_init_tree (cls := .ref C) (t0 := t0) (dv := none) (c2 := .none) (c3 := .none) (b4 := .bool false) he hz fun h' k e' _ => hq h' k e'
end
end XS
end PySem

set_option Elab.async false
set_option linter.all false
set_option maxRecDepth 100000
set_option maxHeartbeats 2000000
namespace PySem
namespace XS
open PySem.W PySem.Calls PyProof.Rows PySem.HandSPX
/-- what the written part says of the class at C and of its __init__ at fI -/
structure Own (prog : Program) (K : Frag) (C fI cc cda : Addr) (newId B initId : String) (bmB : List Value) (qual : Str) (params : Arguments) (body : List Stmt) (scope : Scope) : Prop where
  q : excInitIn K C bmB newId = true
  ov : excOver K C bmB = true
  hd : hasDictIn K C = true
  sa : findIn K (.ref C) "__setattr__" = some (some (.builtin "object.__setattr__"))
  iC : findIn K (.ref C) "__init__" = some (some (.ref fI))
  tI : isFn K (.ref fI) = true
  kC : keepIn K (.ref C) = true
  su : ks_superIn K C C "__init__" = some (some (.builtin initId))
  mC : mroIn K C (.ref C) = some true
  sB : subIn K (.ref C) (.type B) = some true
  th : nsIn K cStatics "thirdparty.any" = some none
  cell : ∃ cl cld csl, K.lookup cc = some ⟨cl, cld, .cell (some (.ref C)), csl⟩
  code : ∃ ccl cdd vs ccs file tf, K.lookup cda = some ⟨ccl, cdd, .fields vs, ccs⟩ ∧ vs[2]? = some (.str file tf) ∧ ((prog.main.file : Str) == file) = true
  top : (prog.main.scope.names.lookup ("super" : Str)).isSome = false
  fn : ∃ oc od osl doc pm an ct, K.lookup fI = some ⟨oc, od, .func (ksFn "__init__" qual params body scope .none .none doc pm an (.ref cda) ct cc), osl⟩ ∧ codeIn K (.ref cda) qual = true
/-- the scope of such an __init__ -/
structure ScI (params : Arguments) (scope : Scope) : Prop where
  hp : ∃ ar, (params.posonlyargs ++ params.args).head? = some ar ∧ ar.arg = "self"
  ks : scope.names.lookup ("super" : Str) = some .globalImplicit
  kc : scope.names.lookup ("__class__" : Str) = some .free
  ka : scope.names.lookup ("self" : Str) = some .local
  kd : scope.kind = .function
  nc : ∀ x ∈ scope.names, x.2 ≠ .cell
  co : scope.isCoroutine = false
  ge : scope.isGenerator = false
theorem quiet_of {env : Env} (h : env.scope.kind = .function) : interactive env = false := by simp [interactive, h]
section
variable {prog : Program} {w : World} {A : Around} {E : Value → Shared → Prop} {R : Result → Shared → Prop} {s : Shared} {K : Frag} {mg mb : Str → Option Value} {C fI cc cda : Addr} {Bn newId iN B initId : String} {bmN bmB : List Value} {qual : Str} {params : Arguments} {rest : List Stmt} {scope : Scope}
theorem init_run (T : Bas Bn newId iN bmN B initId bmB) {p0 p1 p2 p3 p4 p5 : Pos} {txt : Str} {j : Nat}
    (Z : Own prog K C fI cc cda newId B initId bmB qual params (.Expr (.Call (.Attribute (.Call (.Name "super" p0) [] [] p1) "__init__" p2) [.Constant (.str txt) j p3] [] p4) p5 :: rest) scope) (S : ScI params scope)
    {x t0 : Addr} {args : List Value} {binds : List (Str × Value)} (X : K.In s.heap) (hlim : s.heap.NoLimit) (G : s.heap.Ns mainGlobals mg) (gs : mg "super" = none) (Bl : s.heap.Ns builtinsNs mb) (bs : mb "super" = some (.type "super"))
    (hx : s.heap.get? x = some (excO C t0)) (hnx : K.lookup x = none) (hroom : A.depth < recursionLimit)
    (hbind : ∀ doc pm an ct, BindsTo s (ksFn "__init__" qual params (.Expr (.Call (.Attribute (.Call (.Name "super" p0) [] [] p1) "__init__" p2) [.Constant (.str txt) j p3] [] p4) p5 :: rest) scope .none .none doc pm an (.ref cda) ct cc) ⟨.ref x :: args, []⟩ binds)
    (hloc : ∀ y ∈ binds, scope.names.lookup y.1 = some .local) (hself : binds.reverse.lookup ("self" : Str) = some (Value.ref x))
    (hev : ∀ L, ∃ pl : Sem Bool, eval (.Call (.Attribute (.Call (.Name "super" p0) [] [] p1) "__init__" p2) [.Constant (.str txt) j p3] [] p4) (ksEnv qual scope L fI (.ref cda) cc) = (do
      let ov ← attributeBase (.Call (.Name "super" p0) [] [] p1) "__init__" (ksEnv qual scope L fI (.ref cda) cc) (eval (.Call (.Name "super" p0) [] [] p1) (ksEnv qual scope L fI (.ref cda) cc))
      standAt p2.atName
      let (f, first) ← holding [ov] (getMethod ov "__init__" pl)
      callWith p4 f first (backTo p4 (starEach [.Constant (.str txt) j p3] (ksEnv qual scope L fI (.ref cda) cc))) []))
    (hq : ∀ h₁ tk₁ t1, h₁.Ns s.heap.objs.size (fun y => binds.reverse.lookup y) → (∀ b o, b ≠ x → s.heap.get? b = some o → h₁.get? b = some o) → h₁.get? x = some (excO C t1) →
      wpAny (model prog w) (A.deeper (ksEnv qual scope s.heap.objs.size fI (.ref cda) cc)) (execs rest (ksEnv qual scope s.heap.objs.size fI (.ref cda) cc)) (fun fl s' => R (.ok (.ret (match fl with | .ret v => v | _ => .none))) s')
        (fun e s' => wpAny (model prog w) (A.deeper (ksEnv qual scope s.heap.objs.size fI (.ref cda) cc)) (leaving (ksEnv qual scope s.heap.objs.size fI (.ref cda) cc) e) (fun _ s'' => R (.error e) s'') (fun e' s'' => R (.error e') s'') s')
        { s with heap := h₁, toks := tk₁ }) :
    codeAny (model prog w) A (.call (.ref fI) ⟨.ref x :: args, []⟩) R s := by
  obtain ⟨oc, od, osl, doc, pm, an, ct, ho, hcd⟩ := Z.fn
  obtain ⟨ar, hp, ear⟩ := S.hp
  obtain ⟨pl, hev⟩ := hev s.heap.objs.size
  refine ks_codeAny_call_defAt (binds := binds) hroom (X _ _ ho) rfl hlim (codeRec_of X hcd) rfl (hbind doc pm an ct) S.nc hloc (fun h₀ hns hk => ?_) S.co S.ge S.kd
  have X0 : K.In h₀ := X.keeps hk
  have hx0 := hk _ _ hx
  have hL : s.heap.objs.size ≠ x := Nat.ne_of_gt (Heap.lt_size hx)
  have G0 := G.keeps hk
  have B0 := Bl.keeps hk
  obtain ⟨cl, cld, csl, hcell⟩ := Z.cell
  obtain ⟨ccl, cdd, vs, ccs, file, tf, hcode, hvs, hfile⟩ := Z.code
  obtain ⟨cdC, hcC⟩ : ∃ cd, clsIn K C = some cd := by
    obtain ⟨cd, hc, _⟩ := any_some Z.hd
    exact ⟨cd, hc⟩
  obtain ⟨oC, hC1, hC2⟩ : ∃ oC, h₀.get? C = some oC ∧ oC.data = .cls cdC := by
    have hc := hcC
    unfold clsIn at hc
    split at hc
    · rename_i c d cd' sl ho
      cases hc
      exact ⟨_, X0 _ _ ho, rfl⟩
    · cases hc
  have I0 : InstAt h₀ x (excO C t0) C none := ⟨hx0, rfl, rfl, trivial⟩
  have hkA : scope.names.lookup ar.arg = some .local := by rw [ear]; exact S.ka
  refine ks_wpAt_execs_cons (ks_wpAt_Expr_any (ks_wpAt_MethodCall (pl := pl) ?_ hev) (quiet_of S.kd) (by first | rfl | exact rfl))
  refine ks_wpAt_super_base (f := fI) (cc := cda) (ar := ar) S.ks S.kc (by decide) rfl (X0 _ _ ho) rfl hp rfl (X0 _ _ hcode) rfl hvs hfile Z.top ?_
  refine ks_loadName_global S.kd S.ks (loadGlobal_builtin G0 gs B0 bs ⟨rfl, ?_⟩)
  refine wpAny_loadName_free S.kd S.kc rfl ⟨_, X0 _ _ hcell, rfl⟩ ?_
  refine wpAny_loadName_local S.kd hkA hns (v := .ref x) (by show binds.reverse.lookup ar.arg = _; rw [ear]; exact hself) ?_
  refine ks_wpAny_isType_cls hC1 hC2 ⟨rfl, ?_⟩
  refine ks_wpAny_call_super hC1 hC2 hx0 rfl (fun c e => by cases e) (looks_mroIn X0 Z.mC) (fun h₁ hso k₁ => ?_)
  have X1 : K.In h₁ := X0.keeps k₁
  have hx1 := k₁ _ _ hx0
  have I1 : InstAt h₁ x (excO C t0) C none := ⟨hx1, rfl, rfl, trivial⟩
  have hsu := Z.su
  unfold ks_superIn at hsu
  rw [hcC] at hsu
  refine kxs_getMethod T.kx hso (looks_opaque X1 Z.th) (l₀ := cdC.mro) (fun A Q E s k q => wpAny_bind ((looks_clsIn X1 hcC) A _ E s k (wpAny_pure q))) rfl X1 hsu (I1.type.andThen (looks_subIn X1 Z.sB)) (ks_ne X1 I1 hcC) (by decide) ?_
  have k₂ : ∀ b o, h₁.get? b = some o → (h₁.push (kxs_mw initId x)).get? b = some o := fun b o e => Heap.get?_push_of_some _ e
  have hu : (h₁.push (kxs_mw initId x)).get? h₁.objs.size = some (kxs_mw initId x) := Heap.get?_push_at rfl rfl
  refine kxs_callWith (i := initId) (x := x) (by rfl) (evalArgs_plain (Calls.spliced_cons (Calls.Constant_str (k := j) (pos := p3) (Calls.spliced_nil ⟨hu, ?_⟩))))
  obtain ⟨nm, N, qn, bs', bm, hdct, sn, sub, ab, col, dd, k0, k1, k2, k3, k5, hCo, hT⟩ := excInit_of (X1.keeps k₂) Z.q
  refine call_mw T hCo (k₂ _ _ hx1) hu (by show 1 ≤ sizeLine; rw [sizeLine_eq]; omega) fun h₃ k₃ hx3 => ?_
  refine wpAt_of_wpAny (hq h₃ _ _ ?_ (fun b o hb e => k₃ b o hb (k₂ _ _ (k₁ _ _ (hk b o e)))) hx3)
  obtain ⟨oL, es, ep, e1, e2⟩ := hns
  exact ⟨oL, es, ep, k₃ _ _ hL (k₂ _ _ (k₁ _ _ e1)), e2⟩
end
end XS
end PySem

set_option Elab.async false
set_option linter.all false
set_option maxRecDepth 100000
set_option maxHeartbeats 2000000
namespace PySem
namespace XS
open PySem.W PySem.Calls PyProof.Rows PySem.HandSPX
open Builtin Builtin.ObjectAttr
abbrev xo (C t1 : Addr) (d : Option Addr) : Obj := { cls := .ref C, dict := d, data := .fields #[.ref t1, .none, .none, .none, .bool false, .none] }
section
variable {prog : Program} {w : World} {A : Around} {E : Value → Shared → Prop} {s : Shared} {K : Frag} {C x t1 : Addr} {B : String} {bmB : List Value} {name : Str} {v : Value}
/-- self.name = v: the first one lays the object's dict -/
theorem put1 {Q : Unit → Shared → Prop} (SF : StoreFacts B bmB "object.__setattr__" "object") (X : K.In s.heap) (hx : s.heap.get? x = some (xo C t1 none)) (ov : excOver K C bmB = true) (hd : hasDictIn K C = true)
    (sa : findIn K (.ref C) "__setattr__" = some (some (.builtin "object.__setattr__"))) (ha : findIn K (.ref C) name = some none)
    (hq : ∀ h' tk' dx, (∀ b o, b ≠ x → s.heap.get? b = some o → h'.get? b = some o) → s.heap.objs.size ≤ dx → dx ≠ x → h'.get? x = some (xo C t1 (some dx)) →
      h'.Ns1 dx (fun y => if y = name then some v else none) → Q () { s with heap := h', toks := tk' }) :
    wpAny (model prog w) A (setAttr (.ref x) name v) Q E s := by
  have I : InstAt s.heap x (xo C t1 none) C none := ⟨hx, rfl, rfl, trivial⟩
  have nx : x ≠ s.heap.objs.size := Nat.ne_of_lt (Heap.lt_size hx)
  have ht : takerIn K C name = some none := by unfold takerIn; rw [ha]; rfl
  obtain ⟨cd, hc, hh⟩ := any_some hd
  refine set_plain X I sa (osa_openX SF (s := { s with toks := s.toks + 1 }) X I ov ht fun b => ?_)
  obtain ⟨hp, g, d, t, os⟩ := s
  have hcls : Looks (model prog w) hp (classData C) cd := looks_clsIn X hc
  obtain ⟨nm, bs, mro, ns, qn, hdc, sn, sb, ab, col, del⟩ := cd
  dsimp only at hh
  subst hh
  have hx' : hp.get? x = some (xo C t1 none) := hx
  show wpAny _ _ (storeInOwnDict _ _ _ _ _ _) _ _ ⟨hp, g, d, t + 1, os⟩
  unfold storeInOwnDict ownDictForStores
  repeat (first | with_reducible refine HandSPX.store_in_new ?_ ?_ | with_reducible refine wpAny_loadPart_at hx' ?_ | with_reducible refine hcls.at ?_ | wp_step)
  · exact ⟨_, #[], _, (Heap.get?_update_ne _ _ _ _ nx.symm).trans (Heap.get?_push_at rfl rfl), rfl, fun e he => absurd he (by simp), fun _ => rfl⟩
  · intro h' tk' hn' hs
    have hx₁ : (hp.push { cls := .type "dict", data := .dict #[] }).get? x = some (xo C t1 none) := Heap.get?_push_of_some _ hx'
    refine hq h' tk' hp.objs.size (fun b o hb ho => ?_) (Nat.le_refl _) nx.symm ?_ hn'
    · exact (hs.2 b (Nat.ne_of_lt (Heap.lt_size ho))).trans ((Heap.get?_update_ne _ _ _ _ hb).trans (Heap.get?_push_of_some _ ho))
    · exact (hs.2 x nx).trans (Heap.get?_update_self _ hx₁ rfl)
/-- a later one fills it -/
theorem put2 {Q : Unit → Shared → Prop} {dx : Addr} {m0 : Str → Option Value} {nl : List Str} (SF : StoreFacts B bmB "object.__setattr__" "object") (X : K.In s.heap) (hx : s.heap.get? x = some (xo C t1 (some dx))) (hns : s.heap.Ns1 dx m0) (hw : Within m0 nl) (hz : nl.length ≤ 1000)
    (ov : excOver K C bmB = true) (hd : hasDictIn K C = true)
    (sa : findIn K (.ref C) "__setattr__" = some (some (.builtin "object.__setattr__"))) (ha : findIn K (.ref C) name = some none)
    (hq : ∀ h' tk', (∀ b o, b ≠ dx → s.heap.get? b = some o → h'.get? b = some o) → h'.Ns1 dx (fun y => if y = name then some v else m0 y) → Q () { s with heap := h', toks := tk' }) :
    wpAny (model prog w) A (setAttr (.ref x) name v) Q E s := by
  obtain ⟨oD, esD, epD, hoD, hdD, _⟩ := hns.count hw
  have I : InstAt s.heap x (xo C t1 (some dx)) C (some oD) := ⟨hx, rfl, rfl, hoD⟩
  have ht : takerIn K C name = some none := by unfold takerIn; rw [ha]; rfl
  obtain ⟨cd, hc, hh⟩ := any_some hd
  refine set_plain X I sa (osa_openX SF (s := { s with toks := s.toks + 1 }) X I ov ht fun b => ?_)
  obtain ⟨hp, g, d, t, os⟩ := s
  have hcls : Looks (model prog w) hp (classData C) cd := looks_clsIn X hc
  obtain ⟨nm, bs, mro, ns, qn, hdc, sn, sb, ab, col, del⟩ := cd
  dsimp only at hh
  subst hh
  have hx' : hp.get? x = some (xo C t1 (some dx)) := hx
  have hns' : hp.Ns1 dx m0 := hns
  show wpAny _ _ (storeInOwnDict _ _ _ _ _ _) _ _ ⟨hp, g, d, t + 1, os⟩
  unfold storeInOwnDict ownDictForStores
  repeat (first | with_reducible refine OEX.store_in_old hns' hw hz ?_ | with_reducible refine wpAny_loadPart_at hx' ?_ | with_reducible refine hcls.at ?_ | wp_step)
  intro h' tk' hn' hs
  exact hq h' tk' (fun b o hb ho => (hs.2 b hb).trans ho) hn'
end

/-- an exception made: at e, of the class at C, with the fields fs -/
structure Made (h h' : Heap) (e C : Addr) (dv : Option Addr) (fs : List (Str × Value)) : Prop where
  keep : ∀ b o, h.get? b = some o → h'.get? b = some o
  new : h.objs.size ≤ e
  obj : ∃ t1, h'.get? e = some (xo C t1 dv)
  none_ : dv = none → fs = []
  some_ : ∀ d, dv = some d → h.objs.size ≤ d ∧ d ≠ e ∧ ∃ mA, h'.Ns1 d mA ∧ ∀ y, mA y = fs.lookup y

/-! ### the texts of __init__ -/
abbrev aSelf (p : Pos) : Arg := { arg := "self", annotation := none, pos := p }
abbrev aPar (n : Str) (p : Pos) : Arg := { arg := n, annotation := none, pos := p }
abbrev iArgs (l : List Arg) : Arguments := { posonlyargs := [], args := l, vararg := none, kwonlyargs := [], kw_defaults := [], kwarg := none, defaults := [] }
abbrev iSup (txt : Str) (j : Nat) (p0 p1 p2 p3 p4 p5 : Pos) : Stmt := .Expr (.Call (.Attribute (.Call (.Name "super" p0) [] [] p1) "__init__" p2) [.Constant (.str txt) j p3] [] p4) p5
abbrev iPut (f : Str) (q1 q2 q3 q4 : Pos) : Stmt := .Assign [.Attribute (.Name "self" q1) f q2] (.Name f q3) q4
abbrev iSc (l : List Str) : Scope := { kind := .function, names := (("self" : Str), NameKind.local) :: (l.map fun x => (x, NameKind.local)) ++ [(("__class__" : Str), NameKind.free), (("super" : Str), NameKind.globalImplicit)], isGenerator := false, isCoroutine := false, more := [] }
theorem sc_ok (l : List Str) (a0 : Pos) (as : List Arg) (h1 : ∀ x ∈ l, x ≠ ("super" : Str)) (h2 : ∀ x ∈ l, x ≠ ("__class__" : Str)) : ScI (iArgs (aSelf a0 :: as)) (iSc l) := by
  have lk : ∀ (y : Str) (k : NameKind), y ≠ ("self" : Str) → (∀ x ∈ l, x ≠ y) → [(("__class__" : Str), NameKind.free), (("super" : Str), NameKind.globalImplicit)].lookup y = some k → (iSc l).names.lookup y = some k := by
    intro y k h0 h h3
    show List.lookup y ((("self" : Str), NameKind.local) :: ((l.map fun x => (x, NameKind.local)) ++ [(("__class__" : Str), NameKind.free), (("super" : Str), NameKind.globalImplicit)])) = some k
    rw [List.lookup_cons, (by simpa using h0 : (y == ("self" : Str)) = false)]
    induction l with
    | nil => exact h3
    | cons a r ih =>
      have e : (y == a) = false := by simpa using fun z : y = a => h a (by simp) z.symm
      simp only [List.map_cons, List.cons_append]
      rw [List.lookup_cons, e]
      exact ih (fun x hx => h1 x (by simp [hx])) (fun x hx => h2 x (by simp [hx])) fun x hx => h x (by simp [hx])
  refine ⟨⟨aSelf a0, rfl, rfl⟩, lk _ _ (by decide) h1 (by decide), lk _ _ (by decide) h2 (by decide), rfl, rfl, fun x hx => ?_, rfl, rfl⟩
  simp only [List.cons_append, List.mem_cons, List.mem_append, List.mem_map, List.not_mem_nil, or_false] at hx
  rcases hx with rfl | ⟨y, _, rfl⟩ | rfl | rfl <;> exact fun z => nomatch z
theorem ev_sup {env : Env} {txt : Str} {j : Nat} {p0 p1 p2 p3 p4 : Pos} (hp : (p2.endLine == p4.line) = true) :
    eval (.Call (.Attribute (.Call (.Name "super" p0) [] [] p1) "__init__" p2) [.Constant (.str txt) j p3] [] p4) env = (do
      let ov ← attributeBase (.Call (.Name "super" p0) [] [] p1) "__init__" env (eval (.Call (.Name "super" p0) [] [] p1) env)
      standAt p2.atName
      let (f, first) ← holding [ov] (getMethod ov "__init__" (do return (← importBound (.Call (.Name "super" p0) [] [] p1) env).getD true))
      callWith p4 f first (backTo p4 (starEach [.Constant (.str txt) j p3] env)) []) := by
  show (do
      let ov ← attributeBase (.Call (.Name "super" p0) [] [] p1) "__init__" env (eval (.Call (.Name "super" p0) [] [] p1) env)
      standAt p2.atName
      methodCall (.Call (.Name "super" p0) [] [] p1) "__init__" p2 p4 env ov (([.Constant (.str txt) j p3] : List Expr).length + ([] : List Keyword).length) (backTo p4 (starEach [.Constant (.str txt) j p3] env)) (backToKw p4 (keywordEach [] env))) = _
  have e : methodCallForm (([.Constant (.str txt) j p3] : List Expr).length + ([] : List Keyword).length) (backTo p4 (starEach [.Constant (.str txt) j p3] env)) (backToKw p4 (keywordEach [] env)) = true := rfl
  simp only [methodCall, e, calleeOf, methodCallPos, hp, if_true, Bool.not_true, Bool.false_or, pure_bind]
  rfl
section
variable {prog : Program} {w : World} {A : Around} {E : Value → Shared → Prop} {R : Result → Shared → Prop} {s : Shared} {K : Frag} {mg mb : Str → Option Value} {C fI cc cda : Addr} {Bn newId iN B initId : String} {bmN bmB : List Value} {qual : Str}
variable {txt : Str} {j : Nat} {a0 a1 a2 p0 p1 p2 p3 p4 p5 q1 q2 q3 q4 r1 r2 r3 r4 : Pos}
/-- the class called: the object and its args are laid, then __init__ -/
theorem enter (T : Bas Bn newId iN bmN B initId bmB) {params : Arguments} {body : List Stmt} {scope : Scope} (Z : Own prog K C fI cc cda newId B initId bmB qual params body scope) {rest : List Value} (X : K.In s.heap) (hz : rest.length ≤ sizeLine)
    (hq : ∀ h1, (∀ b o, s.heap.get? b = some o → h1.get? b = some o) → h1.get? (s.heap.objs.size + 1) = some (excO C s.heap.objs.size) → K.lookup (s.heap.objs.size + 1) = none → h1.objs.size = s.heap.objs.size + 2 →
      codeAny (model prog w) (A.under (.builtin "type.__call__" ⟨.ref C :: rest, []⟩)) (.call (.ref fI) ⟨.ref (s.heap.objs.size + 1) :: rest, []⟩) (InitBack (s.heap.objs.size + 1) R) { s with heap := h1 }) :
    codeAny (model prog w) A (.call (.ref C) ⟨rest, []⟩) R s := by
  obtain ⟨nm, N', qn, bs, bm, hdct, sn, sub, ab, col, dd, k0, k1, k2, k3, k5, hC, hT⟩ := excInit_of X Z.q
  obtain ⟨oI, hoI, hcI⟩ : ∃ oI, s.heap.get? fI = some oI ∧ oI.cls = .type "function" := by
    obtain ⟨o, ho, hc⟩ := Option.map_eq_some_iff.mp (show (K.lookup fI).map (·.cls) = some (.type "function") from beq_iff_eq.mp Z.tI)
    exact ⟨o, X _ _ ho, hc⟩
  have hi : Looks (model prog w) s.heap (typeLookup (.ref C) "__init__") (some (.ref fI)) := looks_findIn X Z.iC
  have hnx : K.lookup (s.heap.objs.size + 1) = none := by
    cases e : K.lookup (s.heap.objs.size + 1) with
    | none => rfl
    | some o => exact absurd (Nat.lt_of_succ_lt (Heap.lt_size (X _ _ e))) (Nat.lt_irrefl _)
  obtain ⟨hp, g, d, tk, os⟩ := s
  refine run_call T hT hC hi (fun self => exc_bind hoI hcI self) hz (hq _ (fun b o e => Heap.get?_push_of_some _ (Heap.get?_push_of_some _ e)) (by show ((hp.push (kdv_tup rest)).push (excO C hp.objs.size)).get? (hp.objs.size + 1) = _; heap_get) hnx ?_)
  show ((hp.push (kdv_tup rest)).push (excO C hp.objs.size)).objs.size = hp.objs.size + 2
  rw [Heap.size_push, Heap.size_push]
theorem made0 (T : Bas Bn newId iN bmN B initId bmB) (Z : Own prog K C fI cc cda newId B initId bmB qual (iArgs [aSelf a0]) [iSup txt j p0 p1 p2 p3 p4 p5] (iSc []))
    (X : K.In s.heap) (hlim : s.heap.NoLimit) (G : s.heap.Ns mainGlobals mg) (gs : mg "super" = none) (Bl : s.heap.Ns builtinsNs mb) (bs : mb "super" = some (.type "super")) (hroom : A.depth + 1 < recursionLimit) (hp : (p2.endLine == p4.line) = true)
    (hq : ∀ h' tk e, Made s.heap h' e C none [] → R (.ok (.ret (.ref e))) { s with heap := h', toks := tk }) :
    codeAny (model prog w) A (.call (.ref C) ⟨[], []⟩) R s := by
  refine enter T Z X (Nat.zero_le _) fun h1 k1 he hnx hsz => ?_
  refine init_run T Z (sc_ok [] a0 [] (by simp) (by simp)) (binds := [("self", .ref (s.heap.objs.size + 1))]) (s := { s with heap := h1 }) (X.keeps k1) (hlim.keeps k1) (G.keeps k1) gs (Bl.keeps k1) bs he hnx (show A.depth + 1 < recursionLimit from hroom)
    (fun _ _ _ _ => BindsTo.of_eq (by first | rfl | with_unfolding_all rfl)) (by simp) rfl (fun L => ⟨_, ev_sup hp⟩) fun h2 tk2 t1 hns k2 he2 => ?_
  refine wpAny_execs_nil ⟨rfl, hq h2 _ _ ⟨fun b o e => k2 b o (Nat.ne_of_lt (Nat.lt_succ_of_lt (Heap.lt_size e))) (k1 b o e), Nat.le_succ _, ⟨t1, he2⟩, fun _ => rfl, fun d z => nomatch z⟩⟩
theorem lds {M : Model} {env : Env} {m : Str → Option Value} {x : Str} {pos : Pos} {v : Value} {Q : Value → Shared → Prop} (hk : env.scope.kind = .function) (hl : env.kindOf x = some .local) (hn : s.heap.Ns env.locals m) (hv : m x = some v) (hd : (x == ("__debug__" : Str)) = false) (h : Q v s) :
    wpAny M A (eval (.Name x pos) env) Q E s := wpAny_Name (wpAny_loadName_local hk hl hn hv h) hd
/-- how the parameters are bound (at written names: by rfl) -/
def Bd (qual : Str) (params : Arguments) (body : List Stmt) (scope : Scope) (fs : List Str) : Prop := ∀ (s : Shared) (cda cc : Addr) (vs : List Value) (doc pm : Value) (an : Option Addr) (ct : Value), vs.length = fs.length + 1 →
  BindsTo s (ksFn "__init__" qual params body scope .none .none doc pm an (.ref cda) ct cc) ⟨vs, []⟩ ((("self" : Str) :: fs).zip vs)
theorem made1 {f : Str} {v : Value} (T : Bas Bn newId iN bmN B initId bmB) (Z : Own prog K C fI cc cda newId B initId bmB qual (iArgs [aSelf a0, aPar f a1]) [iSup txt j p0 p1 p2 p3 p4 p5, iPut f q1 q2 q3 q4] (iSc [f]))
    (X : K.In s.heap) (hlim : s.heap.NoLimit) (G : s.heap.Ns mainGlobals mg) (gs : mg "super" = none) (Bl : s.heap.Ns builtinsNs mb) (bs : mb "super" = some (.type "super")) (hroom : A.depth + 1 < recursionLimit) (hp : (p2.endLine == p4.line) = true)
    (f1 : f ≠ "self") (f2 : f ≠ "super") (f3 : f ≠ "__class__") (f4 : (f == ("__debug__" : Str)) = false) (hf : findIn K (.ref C) f = some none) (hb : Bd qual (iArgs [aSelf a0, aPar f a1]) [iSup txt j p0 p1 p2 p3 p4 p5, iPut f q1 q2 q3 q4] (iSc [f]) [f])
    (hq : ∀ h' tk e d, Made s.heap h' e C (some d) [(f, v)] → R (.ok (.ret (.ref e))) { s with heap := h', toks := tk }) :
    codeAny (model prog w) A (.call (.ref C) ⟨[v], []⟩) R s := by
  have e0 : (f == ("self" : Str)) = false := by simpa using f1
  have e1 : (("self" : Str) == f) = false := by simpa using fun z : ("self" : Str) = f => f1 z.symm
  refine enter T Z X (by show 1 ≤ sizeLine; rw [sizeLine_eq]; omega) fun h1 k1 he hnx hsz => ?_
  refine init_run T Z (sc_ok [f] a0 [aPar f a1] (by simpa using f2) (by simpa using f3)) (binds := [("self", .ref (s.heap.objs.size + 1)), (f, v)]) (s := { s with heap := h1 }) (X.keeps k1) (hlim.keeps k1) (G.keeps k1) gs (Bl.keeps k1) bs he hnx (show A.depth + 1 < recursionLimit from hroom)
    (fun _ _ _ _ => hb _ _ _ _ _ _ _ _ rfl) (by simp [List.lookup, e0]) (by simp [List.lookup, e1]) (fun L => ⟨_, ev_sup hp⟩) fun h2 tk2 t1 hns k2 he2 => ?_
  have up : ∀ b o, s.heap.get? b = some o → h2.get? b = some o := fun b o e => k2 b o (Nat.ne_of_lt (Nat.lt_succ_of_lt (Heap.lt_size e))) (k1 b o e)
  have h2s : s.heap.objs.size ≤ h2.objs.size := Nat.le_trans (Nat.le_succ _) (Nat.le_of_lt (Heap.lt_size he2))
  have lF : (iSc [f]).names.lookup f = some .local := by simp [List.lookup, e0]
  refine wpAny_execs_cons (plainObj_wpAny_Assign_Attribute ?_ (by first | rfl | with_unfolding_all rfl))
  refine lds rfl lF hns (v := v) (by simp [List.lookup]) f4 (lds rfl rfl hns (v := .ref (s.heap.objs.size + 1)) (by simp [List.lookup, e1]) (by decide) ?_)
  refine put1 T.sf (X.keeps up) he2 Z.ov Z.hd Z.sa hf fun h3 tk3 dx k3 dn dne hx3 hn3 => ?_
  refine wpAny_execs_nil ⟨rfl, hq h3 _ _ dx ⟨fun b o e => k3 b o (Nat.ne_of_lt (Nat.lt_succ_of_lt (Heap.lt_size e))) (up b o e), Nat.le_succ _, ⟨t1, hx3⟩, (fun z => nomatch z), fun d z => ?_⟩⟩
  cases z
  refine ⟨Nat.le_trans h2s dn, dne, _, hn3, fun y => ?_⟩
  by_cases hy : y = f
  · subst hy; simp [List.lookup]
  · have : (y == f) = false := by simpa using hy
    simp [List.lookup, hy, this]
theorem made2 {f g : Str} {v u : Value} (T : Bas Bn newId iN bmN B initId bmB) (Z : Own prog K C fI cc cda newId B initId bmB qual (iArgs [aSelf a0, aPar f a1, aPar g a2]) [iSup txt j p0 p1 p2 p3 p4 p5, iPut f q1 q2 q3 q4, iPut g r1 r2 r3 r4] (iSc [f, g]))
    (X : K.In s.heap) (hlim : s.heap.NoLimit) (G : s.heap.Ns mainGlobals mg) (gs : mg "super" = none) (Bl : s.heap.Ns builtinsNs mb) (bs : mb "super" = some (.type "super")) (hroom : A.depth + 1 < recursionLimit) (hp : (p2.endLine == p4.line) = true)
    (f1 : f ≠ "self") (f2 : f ≠ "super") (f3 : f ≠ "__class__") (f4 : (f == ("__debug__" : Str)) = false) (hf : findIn K (.ref C) f = some none)
    (g1 : g ≠ "self") (g2 : g ≠ "super") (g3 : g ≠ "__class__") (g4 : (g == ("__debug__" : Str)) = false) (hg : findIn K (.ref C) g = some none) (fg : f ≠ g) (hb : Bd qual (iArgs [aSelf a0, aPar f a1, aPar g a2]) [iSup txt j p0 p1 p2 p3 p4 p5, iPut f q1 q2 q3 q4, iPut g r1 r2 r3 r4] (iSc [f, g]) [f, g])
    (hq : ∀ h' tk e d, Made s.heap h' e C (some d) [(f, v), (g, u)] → R (.ok (.ret (.ref e))) { s with heap := h', toks := tk }) :
    codeAny (model prog w) A (.call (.ref C) ⟨[v, u], []⟩) R s := by
  have e0 : (f == ("self" : Str)) = false := by simpa using f1
  have e1 : (("self" : Str) == f) = false := by simpa using fun z : ("self" : Str) = f => f1 z.symm
  have e2 : (g == ("self" : Str)) = false := by simpa using g1
  have e3 : (("self" : Str) == g) = false := by simpa using fun z : ("self" : Str) = g => g1 z.symm
  have e4 : (f == g) = false := by simpa using fg
  have e5 : (g == f) = false := by simpa using fun z : g = f => fg z.symm
  refine enter T Z X (by show 2 ≤ sizeLine; rw [sizeLine_eq]; omega) fun h1 k1 he hnx hsz => ?_
  refine init_run T Z (sc_ok [f, g] a0 [aPar f a1, aPar g a2] (by simpa using ⟨f2, g2⟩) (by simpa using ⟨f3, g3⟩)) (binds := [("self", .ref (s.heap.objs.size + 1)), (f, v), (g, u)]) (s := { s with heap := h1 }) (X.keeps k1) (hlim.keeps k1) (G.keeps k1) gs (Bl.keeps k1) bs he hnx (show A.depth + 1 < recursionLimit from hroom)
    (fun _ _ _ _ => hb _ _ _ _ _ _ _ _ rfl) (by simp [List.lookup, e0, e2, e5]) (by simp [List.lookup, e1, e3]) (fun L => ⟨_, ev_sup hp⟩) fun h2 tk2 t1 hns k2 he2 => ?_
  have up : ∀ b o, s.heap.get? b = some o → h2.get? b = some o := fun b o e => k2 b o (Nat.ne_of_lt (Nat.lt_succ_of_lt (Heap.lt_size e))) (k1 b o e)
  have h2s : s.heap.objs.size ≤ h2.objs.size := Nat.le_trans (Nat.le_succ _) (Nat.le_of_lt (Heap.lt_size he2))
  have lF : (iSc [f, g]).names.lookup f = some .local := by simp [List.lookup, e0]
  have lG : (iSc [f, g]).names.lookup g = some .local := by simp [List.lookup, e2, e5]
  refine wpAny_execs_cons (plainObj_wpAny_Assign_Attribute ?_ (by first | rfl | with_unfolding_all rfl))
  refine lds rfl lF hns (v := v) (by simp [List.lookup, e4]) f4 (lds rfl rfl hns (v := .ref (s.heap.objs.size + 1)) (by simp [List.lookup, e1, e3]) (by decide) ?_)
  refine put1 T.sf (X.keeps up) he2 Z.ov Z.hd Z.sa hf fun h3 tk3 dx k3 dn dne hx3 hn3 => ?_
  have up3 : ∀ b o, s.heap.get? b = some o → h3.get? b = some o := fun b o e => k3 b o (Nat.ne_of_lt (Nat.lt_succ_of_lt (Heap.lt_size e))) (up b o e)
  have nL : h1.objs.size ≠ s.heap.objs.size + 1 := by rw [hsz]; omega
  have ns3 : h3.Ns h1.objs.size (fun y => List.lookup y [(("self" : Str), Value.ref (s.heap.objs.size + 1)), (f, v), (g, u)].reverse) := by
    obtain ⟨oL, es, ep, z1, z2⟩ := hns
    exact ⟨oL, es, ep, k3 _ _ nL z1, z2⟩
  refine wpAny_execs_cons (plainObj_wpAny_Assign_Attribute ?_ (by first | rfl | with_unfolding_all rfl))
  refine lds rfl lG ns3 (v := u) (by simp [List.lookup, e5]) g4 (lds rfl rfl ns3 (v := .ref (s.heap.objs.size + 1)) (by simp [List.lookup, e1, e3]) (by decide) ?_)
  refine put2 T.sf (X.keeps up3) hx3 hn3 (nl := [f]) (fun y hy => ?_) (by show 1 ≤ 1000; omega) Z.ov Z.hd Z.sa hg fun h4 tk4 k4 hn4 => ?_
  · by_cases z : y = f
    · simp [z]
    · simp [z] at hy
  have dL : ∀ b o, s.heap.get? b = some o → b ≠ dx := fun b o e z => absurd (Nat.lt_of_lt_of_le (Heap.lt_size e) (Nat.le_trans h2s dn)) (by rw [z]; exact Nat.lt_irrefl _)
  refine wpAny_execs_nil ⟨rfl, hq h4 _ _ dx ⟨fun b o e => k4 b o (dL b o e) (up3 b o e), Nat.le_succ _, ⟨t1, k4 _ _ (Ne.symm dne) hx3⟩, (fun z => nomatch z), fun d z => ?_⟩⟩
  cases z
  refine ⟨Nat.le_trans h2s dn, dne, _, hn4, fun y => ?_⟩
  by_cases hy : y = f
  · subst hy
    simp [List.lookup, fg]
  · have z1 : (y == f) = false := by simpa using hy
    by_cases hz : y = g
    · subst hz
      simp [List.lookup, z1]
    · have z2 : (y == g) = false := by simpa using hz
      simp [List.lookup, hy, hz, z1, z2]
end
end XS
end PySem

set_option Elab.async false
set_option linter.all false
set_option maxRecDepth 100000
set_option maxHeartbeats 2000000
namespace PySem
namespace XS
open PySem.W PySem.Calls PyProof.Rows PySem.HandSPX
/-- the class at C makes exceptions with the fields fs -/
def MkC (P : Program) (w : World) (K : Frag) (mg : Str → Option Value) (C : Addr) (fs : List Str) : Prop :=
  ∀ (A : Around) (s : Shared) (vs : List Value) (R : Result → Shared → Prop), K.In s.heap → s.heap.NoLimit → s.heap.Ns mainGlobals mg → (∃ mb, s.heap.Ns builtinsNs mb ∧ mb "super" = some (.type "super")) → A.depth + 1 < recursionLimit → vs.length = fs.length →
    (∀ h' tk e d, Made s.heap h' e C d (fs.zip vs) → (d = none ↔ fs = []) → R (.ok (.ret (.ref e))) { s with heap := h', toks := tk }) → codeAny (model P w) A (.call (.ref C) ⟨vs, []⟩) R s
section
variable {P : Program} {w : World} {K : Frag} {mg : Str → Option Value} {C fI cc cda : Addr} {Bn newId iN B initId : String} {bmN bmB : List Value} {qual : Str}
variable {txt : Str} {j : Nat} {a0 a1 a2 p0 p1 p2 p3 p4 p5 q1 q2 q3 q4 r1 r2 r3 r4 : Pos}
theorem mkC0 (T : Bas Bn newId iN bmN B initId bmB) (Z : Own P K C fI cc cda newId B initId bmB qual (iArgs [aSelf a0]) [iSup txt j p0 p1 p2 p3 p4 p5] (iSc [])) (gs : mg "super" = none) (hp : (p2.endLine == p4.line) = true) : MkC P w K mg C [] := by
  intro A s vs R X hl G ⟨mb, hB, eB⟩ hr hn hq
  cases vs with
  | nil => exact made0 T Z X hl G gs hB eB hr hp fun h' tk e M => hq h' tk e none M ⟨fun _ => rfl, fun _ => rfl⟩
  | cons v r => cases hn
theorem mkC1 {f : Str} (T : Bas Bn newId iN bmN B initId bmB) (Z : Own P K C fI cc cda newId B initId bmB qual (iArgs [aSelf a0, aPar f a1]) [iSup txt j p0 p1 p2 p3 p4 p5, iPut f q1 q2 q3 q4] (iSc [f])) (gs : mg "super" = none) (hp : (p2.endLine == p4.line) = true)
    (f1 : f ≠ "self") (f2 : f ≠ "super") (f3 : f ≠ "__class__") (f4 : (f == ("__debug__" : Str)) = false) (hf : findIn K (.ref C) f = some none) (hb : Bd qual (iArgs [aSelf a0, aPar f a1]) [iSup txt j p0 p1 p2 p3 p4 p5, iPut f q1 q2 q3 q4] (iSc [f]) [f]) : MkC P w K mg C [f] := by
  intro A s vs R X hl G ⟨mb, hB, eB⟩ hr hn hq
  match vs, hn with
  | [v], _ => exact made1 T Z X hl G gs hB eB hr hp f1 f2 f3 f4 hf hb fun h' tk e d M => hq h' tk e (some d) M ⟨(fun z => nomatch z), fun z => nomatch z⟩
theorem mkC2 {f g : Str} (T : Bas Bn newId iN bmN B initId bmB) (Z : Own P K C fI cc cda newId B initId bmB qual (iArgs [aSelf a0, aPar f a1, aPar g a2]) [iSup txt j p0 p1 p2 p3 p4 p5, iPut f q1 q2 q3 q4, iPut g r1 r2 r3 r4] (iSc [f, g])) (gs : mg "super" = none) (hp : (p2.endLine == p4.line) = true)
    (f1 : f ≠ "self") (f2 : f ≠ "super") (f3 : f ≠ "__class__") (f4 : (f == ("__debug__" : Str)) = false) (hf : findIn K (.ref C) f = some none)
    (g1 : g ≠ "self") (g2 : g ≠ "super") (g3 : g ≠ "__class__") (g4 : (g == ("__debug__" : Str)) = false) (hg : findIn K (.ref C) g = some none) (fg : f ≠ g)
    (hb : Bd qual (iArgs [aSelf a0, aPar f a1, aPar g a2]) [iSup txt j p0 p1 p2 p3 p4 p5, iPut f q1 q2 q3 q4, iPut g r1 r2 r3 r4] (iSc [f, g]) [f, g]) : MkC P w K mg C [f, g] := by
  intro A s vs R X hl G ⟨mb, hB, eB⟩ hr hn hq
  match vs, hn with
  | [v, u], _ => exact made2 T Z X hl G gs hB eB hr hp f1 f2 f3 f4 hf g1 g2 g3 g4 hg fg hb fun h' tk e d M => hq h' tk e (some d) M ⟨(fun z => nomatch z), fun z => nomatch z⟩
end
end XS
end PySem
namespace L2
open PySem PySem.Spec PyProof.Rows
theorem relO_zip : ∀ {fs : List Str} {vs : List V} {us : List Value}, Vals vs us → ∀ y, RelO ((fs.zip vs).lookup y) ((fs.zip us).lookup y)
  | [], _, _, _, _ => trivial
  | _ :: _, _, _, .nil, _ => trivial
  | f :: fs, _, _, .cons r t, y => by
    simp only [List.zip_cons_cons, List.lookup_cons]
    cases y == f with
    | true => exact r
    | false => exact relO_zip t y
/-- what stands behind the making: raised, and as a value -/
def kMkX (C : Addr) : List Str → List V → Hp → XK → Prop
  | [], _, H, Q => Q (.ref C) none H
  | f :: fs, vs, H, Q => ∀ d, H d = none → Q (.ref C) (some d) (upd H d (.xd ((f :: fs).zip vs)))
def kMkV (C : Addr) : List Str → List V → Hp → VK → Prop
  | [], _, H, Q => ∀ e, H e = none → Q (.ref e) (upd H e (exo e C none))
  | f :: fs, vs, H, Q => ∀ d e, H d = none → H e = none → d ≠ e → Q (.ref e) (upd (upd H d (.xd ((f :: fs).zip vs))) e (exo e C (some d)))
section
variable {X : Cx} {C : Addr} {fs : List Str}
/-- the state behind the call, without the new object, and with it -/
theorem Inv.xmade {pins : List (Addr × Obj)} {σ : St} {H : Hp} {s : Shared} {h' : Heap} {tk : Nat} {e : Addr} {d : Option Addr} {vs : List V} {us : List Value} (I : Inv X pins σ H s) (r : Vals vs us) (M : PySem.XS.Made s.heap h' e C d (fs.zip us)) :
    ∃ (H' : Hp) (G : Heap), (d = none → H' = H) ∧ (∀ dd, d = some dd → H dd = none ∧ dd ≠ e ∧ H' = upd H dd (.xd (fs.zip vs))) ∧ H e = none ∧ H' e = none ∧ G.get? e = none ∧ (∀ b o, G.get? b = some o → h'.get? b = some o) ∧
      Inv X pins σ H' { s with heap := G, toks := tk } ∧ Inv X pins σ (upd H' e (exo e C d)) { s with heap := h', toks := tk } := by
  obtain ⟨G, g1, g2⟩ := restrict h' fun b => decide (b ≠ e)
  have gk : ∀ b, b ≠ e → G.get? b = h'.get? b := fun b hb => g1 b (decide_eq_true hb)
  have ge : G.get? e = none := g2 e (by simp)
  have old : ∀ b o, s.heap.get? b = some o → G.get? b = some o := fun b o q => (gk b (Nat.ne_of_lt (Nat.lt_of_lt_of_le (Heap.lt_size q) M.new))).trans (M.keep b o q)
  have back : ∀ b o, G.get? b = some o → h'.get? b = some o := fun b o q => by
    by_cases hb : b = e
    · rw [hb, ge] at q; cases q
    · rw [← gk b hb]; exact q
  have ne : H e = none := I.hok.fresh M.new
  obtain ⟨t1, ho⟩ := M.obj
  cases d with
  | none =>
    have J : Inv X pins σ H { s with heap := G, toks := tk } := I.kept (t' := tk) old
    exact ⟨H, G, fun _ => rfl, (fun dd z => nomatch z), ne, ne, ge, back, J, J.laidN back ge ne (exo_ok ho)⟩
  | some dd =>
    obtain ⟨dn, dne, mA, hns, hm⟩ := M.some_ dd rfl
    have hd : H dd = none := I.hok.fresh dn
    have ob : ObjOk X.prog X.w (upd H dd (.xd (fs.zip vs))) G dd (.xd (fs.zip vs)) := by
      refine ⟨mA, hns.at (fun o q => (gk dd dne).trans q), fun f => ?_⟩
      rw [hm]
      exact relO_zip r f
    have J : Inv X pins σ (upd H dd (.xd (fs.zip vs))) { s with heap := G, toks := tk } := I.laid (t' := tk) old dn ob
    have ne' : (upd H dd (.xd (fs.zip vs))) e = none := by rw [upd_ne (Ne.symm dne)]; exact ne
    exact ⟨_, G, (fun z => nomatch z), fun d' z => by cases z; exact ⟨hd, dne, rfl⟩, ne, ne', ge, back, J, J.laidN back ge ne' (exo_ok ho)⟩
theorem Inv.bltSuper {pins : List (Addr × Obj)} {σ : St} {H : Hp} {s : Shared} (I : Inv X pins σ H s) : ∃ mb, s.heap.Ns builtinsNs mb ∧ mb "super" = some (.type "super") := by
  obtain ⟨mb, hb, e⟩ := I.mod.blt
  exact ⟨mb, hb.keeps I.bk, (e _ (by decide)).trans (by decide +kernel)⟩
theorem run_val (T : PySem.XS.MkC X.prog X.w X.K X.mg C fs) {k : Nat} (hr : Room (k + 1) X.A) {pins : List (Addr × Obj)} {σ : St} {H : Hp} {s : Shared} {vs : List V} {us : List Value} {Q : VK} (I : Inv X pins σ H s) (r : Vals vs us) (hl : vs.length = fs.length) (h : kMkV C fs vs H Q) :
    wpAny (model X.prog X.w) X.A (call (.ref C) us) (EP X pins σ Q) X.xe s := by
  refine wpAny_call (T X.A s us _ I.kIn I.nolimit (I.mod.glob.keeps I.bk) I.bltSuper (by have := hr.dp; omega) (by rw [← r.length, hl]) fun h' tk e d M hd => ?_)
  obtain ⟨H', G, e1, e2, ne, ne', ge, bk, J, J'⟩ := I.xmade (tk := tk) r M
  refine ⟨.ref e, _, J', rfl, ?_⟩
  cases fs with
  | nil =>
    have z := hd.mpr rfl
    subst z
    rw [e1 rfl]
    exact h e ne
  | cons f fs =>
    cases d with
    | none => exact absurd (hd.mp rfl) (by simp)
    | some dd =>
      obtain ⟨hd0, dne, eH⟩ := e2 dd rfl
      rw [eH]
      exact h dd e hd0 ne dne
theorem run_mk (T : PySem.XS.MkC X.prog X.w X.K X.mg C fs) (hR : Raises X (.ref C)) {k : Nat} (hr : Room (k + 1) X.A) {pins : List (Addr × Obj)} {σ : St} {H : Hp} {s : Shared} {vs : List V} {us : List Value} {Q : XK} (I : Inv X pins σ H s) (r : Vals vs us) (hl : vs.length = fs.length) (h : kMkX C fs vs H Q) :
    wpAny (model X.prog X.w) X.A (call (.ref C) us) (MkP X pins σ Q) X.xe s := by
  refine wpAny_call (T X.A s us _ I.kIn I.nolimit (I.mod.glob.keeps I.bk) I.bltSuper (by have := hr.dp; omega) (by rw [← r.length, hl]) fun h' tk e d M hd => ?_)
  obtain ⟨H', G, e1, e2, ne, ne', ge, bk, J, J'⟩ := I.xmade (tk := tk) r M
  obtain ⟨t1, ho⟩ := M.obj
  have q : Q (.ref C) d H' := by
    cases fs with
    | nil =>
      have z := hd.mpr rfl
      subst z
      rw [e1 rfl]
      exact h
    | cons f fs =>
      cases d with
      | none => exact absurd (hd.mp rfl) (by simp)
      | some dd =>
        obtain ⟨hd0, dne, eH⟩ := e2 dd rfl
        rw [eH]
        exact h dd hd0
  exact ⟨e, _, _, { s with heap := G, toks := tk }, H', .ref C, d, rfl, J, bk, ge, ho, ⟨rfl, rfl⟩, rfl, rfl, ne', rfl, I.bare, hR, q⟩
variable {x : Str} {p pos : Pos} {e : Expr} {es : List Expr} {ta : TA} {k : Nat}
def tMkV (C : Addr) (fs : List Str) (ta : TA) : TE := fun σ H Q => ta σ H fun vs H1 => vs.length = fs.length ∧ kMkV C fs vs H1 Q
def tMkX (C : Addr) (fs : List Str) (ta : TA) : St → Hp → XK → Prop := fun σ H Q => ta σ H fun vs H1 => vs.length = fs.length ∧ kMkX C fs vs H1 Q
theorem pe_xmk (T : PySem.XS.MkC X.prog X.w X.K X.mg C fs) (kC : PySem.W.keepIn X.K (.ref C) = true) (hr : Room (k + 1) X.A) (hg : Gl X x) (hm : X.mg x = some (.ref C)) (ha : PA X (e :: es) ta)
    (hdb : (x == ("__debug__" : Str)) = false := by decide) (he : starEach (e :: es) X.env = (false, eval e X.env) :: starEach es X.env := by rfl) (hpl : (backTo pos (starEach es X.env)).any (·.1) = false := by rfl) :
    PE X (.Call (.Name x p) (e :: es) [] pos) (tMkV C fs ta) := by
  refine ⟨fun pins s σ H Q I h => ?_⟩
  refine wpAny_Call_Name_kw (ld_glob I hg hm ?_ hdb)
  exact PySem.W.callWith_K (h₀ := X.base) I.ok.mod.kin kC (thn (ha.run pos pins s σ H _ I h) fun us s1 ⟨vs, H1, I1, r, hl, q⟩ => ⟨I1.kIn, run_val T hr I1 r hl q⟩) he hpl
theorem pe_xmk0 (T : PySem.XS.MkC X.prog X.w X.K X.mg C []) (kC : PySem.W.keepIn X.K (.ref C) = true) (hr : Room (k + 1) X.A) (hg : Gl X x) (hm : X.mg x = some (.ref C)) (hdb : (x == ("__debug__" : Str)) = false := by decide) :
    PE X (.Call (.Name x p) [] [] pos) (tMkV C [] tNil) := by
  refine ⟨fun pins s σ H Q I h => ?_⟩
  refine wpAny_Call_Name_kw (ld_glob I hg hm ?_ hdb)
  exact PySem.W.callWith_K0 I.kIn kC (run_val (us := []) T hr I .nil rfl h.2)
theorem pmk_x (T : PySem.XS.MkC X.prog X.w X.K X.mg C fs) (hR : Raises X (.ref C)) (kC : PySem.W.keepIn X.K (.ref C) = true) (hr : Room (k + 1) X.A) (hg : Gl X x) (hm : X.mg x = some (.ref C)) (ha : PA X (e :: es) ta)
    (hdb : (x == ("__debug__" : Str)) = false := by decide) (he : starEach (e :: es) X.env = (false, eval e X.env) :: starEach es X.env := by rfl) (hpl : (backTo pos (starEach es X.env)).any (·.1) = false := by rfl) :
    PMk X (.Call (.Name x p) (e :: es) [] pos) (tMkX C fs ta) := by
  intro pins s σ H Q I h
  refine wpAny_Call_Name_kw (ld_glob I hg hm ?_ hdb)
  exact PySem.W.callWith_K (h₀ := X.base) I.ok.mod.kin kC (thn (ha.run pos pins s σ H _ I h) fun us s1 ⟨vs, H1, I1, r, hl, q⟩ => ⟨I1.kIn, run_mk T hR hr I1 r hl q⟩) he hpl
theorem pmk_x0 (T : PySem.XS.MkC X.prog X.w X.K X.mg C []) (hR : Raises X (.ref C)) (kC : PySem.W.keepIn X.K (.ref C) = true) (hr : Room (k + 1) X.A) (hg : Gl X x) (hm : X.mg x = some (.ref C)) (hdb : (x == ("__debug__" : Str)) = false := by decide) :
    PMk X (.Call (.Name x p) [] [] pos) (tMkX C [] tNil) := by
  intro pins s σ H Q I h
  refine wpAny_Call_Name_kw (ld_glob I hg hm ?_ hdb)
  exact PySem.W.callWith_K0 I.kIn kC (run_mk (us := []) T hR hr I .nil rfl h.2)

/-! ### an exception held as a value: its fields, its classes -/
/-- what stands at a is an exception of the class at C -/
def ExAt (H : Hp) (a C : Addr) (fs : List (Str × V)) : Prop := (fs = [] ∧ H a = some (exo a C none)) ∨ ∃ d, H a = some (exo a C (some d)) ∧ H d = some (.xd fs)
def tXfld (K : PySem.W.Frag) (ta : TE) (n : Str) : TE := fun σ H Q => ta σ H fun x H1 => ∃ a C d fs v, x = .ref a ∧ H1 a = some (exo a C (some d)) ∧ H1 d = some (.xd fs) ∧ XfC K C ∧ PySem.W.findIn K (.ref C) n = some none ∧ fs.lookup n = some v ∧ Q v H1
theorem pe_xfld {n : Str} {te : TE} (he : PE X e te) (hb : attributeBase e n X.env (eval e X.env) = eval e X.env := by rfl) : PE X (.Attribute e n pos) (tXfld X.K te n) := by
  refine ⟨fun pins s σ H Q I h => ?_⟩
  refine attr_of hb (thn (he.run pins s σ H _ I h) fun u s1 hh => ?_)
  obtain ⟨x, H1, I1, rx, a, C, d, fs, v, ex, ea, ed, T, hno, l, q⟩ := hh
  subst ex
  obtain rfl : u = Value.ref a := rx
  obtain ⟨t1, ho⟩ := exo_at I1.hok ea
  have hx : ObjOk X.prog X.w H1 s1.heap d (.xd fs) := I1.hok d _ ed
  obtain ⟨mA, hns, hr⟩ := hx
  obtain ⟨od, hod, hl⟩ := lookIn_ns hns
  obtain ⟨u, hu, ru⟩ := RelO.some_of (v := v) (o := mA n) (by rw [← l]; exact hr n)
  have J : PySem.W.InstAt s1.heap a (PySem.XS.xo C t1 (some d)) C (some od) := ⟨ho, rfl, rfl, hod⟩
  exact HandSPX.exc_get I1.kIn J T.ga T.gg T.exC (PySem.W.findObj_own T.hdC hno rfl (by rw [hl, hu])) (handed_of ru) ⟨v, H1, I1.tok _, ru, q⟩
/-- what the class must say, so that isinstance asks its instances rightly -/
def isB (K : PySem.W.Frag) (C : Addr) : Bool :=
  decide (PySem.W.findIn K (.ref C) "__getattribute__" = some (some (.builtin "BaseException.__getattribute__"))) && (decide (PySem.W.findIn K (.ref C) "__getattr__" = some none) && (decide (PySem.W.subIn K (.ref C) (.type "BaseException") = some true) && (PySem.W.hasDictIn K C &&
  (decide (PySem.W.findIn K (.ref C) "__class__" = some (some (.builtin "object.__class__"))) && (decide (PySem.W.specialIn K (.builtin "object.__class__") "__get__" = some (some (.builtin "getset_descriptor.__get__"))) && (decide (PySem.W.takesIn K (.builtin "object.__class__") = some true) && decide (PySem.W.mroIn K C (.type "object") = some true)))))))
theorem isB_ok {K : PySem.W.Frag} {C x : Addr} {ox : Obj} {od : Option Obj} (h : isB K C = true) : PySem.W.KitX K (.ref x) (.ref C) (fun h => PySem.W.InstAt h x ox C od) := by
  obtain ⟨h1, h⟩ := Bool.and_eq_true_iff.mp h
  obtain ⟨h2, h⟩ := Bool.and_eq_true_iff.mp h
  obtain ⟨h3, h⟩ := Bool.and_eq_true_iff.mp h
  obtain ⟨h4, h⟩ := Bool.and_eq_true_iff.mp h
  obtain ⟨h5, h⟩ := Bool.and_eq_true_iff.mp h
  obtain ⟨h6, h⟩ := Bool.and_eq_true_iff.mp h
  obtain ⟨h7, h8⟩ := Bool.and_eq_true_iff.mp h
  obtain ⟨cd, hc, _⟩ := PySem.W.any_some h4
  exact PySem.W.kitx_exc (by rw [hc]; rfl) (of_decide_eq_true h1) (of_decide_eq_true h2) (of_decide_eq_true h3) (of_decide_eq_true h5) (of_decide_eq_true h6) (of_decide_eq_true h7) (of_decide_eq_true h8)
def rIsX (K : PySem.W.Frag) : List V → Hp → VK → Prop := fun xs H Q => ∃ (a C : Addr) (fs : List (Str × V)) (c : V) (cv : Value) (b : Bool), xs = [.ref a, c] ∧ ExAt H a C fs ∧ isB K C = true ∧ (∀ u, RelV c u → u = cv) ∧ PySem.W.kitOne K (.ref C) cv = some b ∧ Q (.bl b) H
theorem call_isX : CallR X (.builtin "isinstance") (rIsX X.K) := by
  intro pins s σ H xs us Q I r h
  obtain ⟨a, C, fs, c, cv, b, rfl, hE, hC, hcv, e, q⟩ := h
  cases r with
  | cons rx rr =>
    cases rr with
    | cons rt rr =>
      cases rr
      cases rx
      have ec := hcv _ rt
      subst ec
      rcases hE with ⟨_, ha⟩ | ⟨d, ha, hd⟩
      · obtain ⟨t1, ho⟩ := exo_at I.hok ha
        have J : PySem.W.InstAt s.heap a (PySem.XS.xo C t1 none) C none := ⟨ho, rfl, rfl, trivial⟩
        exact PySem.W.kia_one (isB_ok hC) I.kIn J e (fun z => nomatch z) fun tk => ⟨.bl b, H, I.kept (t' := tk) fun _ _ z => z, rfl, q⟩
      · obtain ⟨t1, ho⟩ := exo_at I.hok ha
        have hx : ObjOk X.prog X.w H s.heap d (.xd fs) := I.hok d _ hd
        obtain ⟨mA, ⟨od, es, ep, hod, _⟩, hr⟩ := hx
        have J : PySem.W.InstAt s.heap a (PySem.XS.xo C t1 (some d)) C (some od) := ⟨ho, rfl, rfl, hod⟩
        exact PySem.W.kia_one (isB_ok hC) I.kIn J e (fun z => nomatch z) fun tk => ⟨.bl b, H, I.kept (t' := tk) fun _ _ z => z, rfl, q⟩
end
end L2

set_option Elab.async false
set_option linter.all false
set_option maxRecDepth 100000
set_option maxHeartbeats 2000000
/-! XW: an error class's facts, asked of the written part by one check. -/
namespace L2
open PySem PySem.Spec PyProof.Rows
/-- an own error class by its name -/
structure Xc (P : Program) (w : World) (K : PySem.W.Frag) (mg : Str → Option Value) (x : Str) (C : Addr) (fs : List Str) : Prop where
  gC : mg x = some (.ref C)
  kC : PySem.W.keepIn K (.ref C) = true
  mkc : PySem.XS.MkC P w K mg C fs
  isb : isB K C = true
  xf : XfC K C
  nf : ∀ f ∈ fs, PySem.W.findIn K (.ref C) f = some none
  ra : PySem.W.subIn K (.ref C) (.type "BaseException") = some true ∧ PySem.W.typeIn K (.ref C) = some (.type "type")
def ownB (K : PySem.W.Frag) (C fI : Addr) (newId B initId : String) (bmB : List Value) (fs : List Str) : Bool :=
  PySem.W.excInitIn K C bmB newId && (PySem.W.excOver K C bmB && (PySem.W.hasDictIn K C && (decide (PySem.W.findIn K (.ref C) "__setattr__" = some (some (.builtin "object.__setattr__"))) && (decide (PySem.W.findIn K (.ref C) "__init__" = some (some (.ref fI))) && (PySem.W.isFn K (.ref fI) && (PySem.W.keepIn K (.ref C) &&
  (decide (PySem.W.ks_superIn K C C "__init__" = some (some (.builtin initId))) && (decide (PySem.W.mroIn K C (.ref C) = some true) && (decide (PySem.W.subIn K (.ref C) (.type B) = some true) && (decide (PySem.W.nsIn K cStatics "thirdparty.any" = some none) && (decide (PySem.W.nsIn K mainGlobals "super" = some none) && (isB K C && (xfB K C && (fs.all (fun f => decide (PySem.W.findIn K (.ref C) f = some none)) && decide (PySem.W.typeIn K (.ref C) = some (.type "type"))))))))))))))))
section
variable {P : Program} {w : World} {K : PySem.W.Frag} {h : Heap} {mg : Str → Option Value} {x qual : Str} {st : Stmt} {C fI cc cda : Addr} {Bn newId iN B initId : String} {bmN bmB : List Value} {fs : List Str}
variable {oc doc pm ct cl ccl : Value} {od an cld cdd : Option Addr} {osl csl ccs : Array (Option Value)} {vs : Array Value} {file : Str} {tf : Tok}
theorem own_of {params : Arguments} {body : List Stmt} {scope : Scope} (b : ownB K C fI newId B initId bmB fs = true) (top : (P.main.scope.names.lookup ("super" : Str)).isSome = false)
    (l : K.lookup fI = some ⟨oc, od, .func (PySem.W.ksFn "__init__" qual params body scope .none .none doc pm an (.ref cda) ct cc), osl⟩) (cd : PySem.W.codeIn K (.ref cda) qual = true)
    (lc : K.lookup cc = some ⟨cl, cld, .cell (some (.ref C)), csl⟩) (la : K.lookup cda = some ⟨ccl, cdd, .fields vs, ccs⟩) (hv : vs[2]? = some (.str file tf)) (hf : ((P.main.file : Str) == file) = true) :
    PySem.XS.Own P K C fI cc cda newId B initId bmB qual params body scope ∧ PySem.W.keepIn K (.ref C) = true ∧ isB K C = true ∧ XfC K C ∧ (∀ f ∈ fs, PySem.W.findIn K (.ref C) f = some none) ∧ PySem.W.nsIn K mainGlobals "super" = some none ∧ PySem.W.typeIn K (.ref C) = some (.type "type") := by
  obtain ⟨b1, b⟩ := Bool.and_eq_true_iff.mp b
  obtain ⟨b2, b⟩ := Bool.and_eq_true_iff.mp b
  obtain ⟨b3, b⟩ := Bool.and_eq_true_iff.mp b
  obtain ⟨b4, b⟩ := Bool.and_eq_true_iff.mp b
  obtain ⟨b5, b⟩ := Bool.and_eq_true_iff.mp b
  obtain ⟨b6, b⟩ := Bool.and_eq_true_iff.mp b
  obtain ⟨b7, b⟩ := Bool.and_eq_true_iff.mp b
  obtain ⟨b8, b⟩ := Bool.and_eq_true_iff.mp b
  obtain ⟨b9, b⟩ := Bool.and_eq_true_iff.mp b
  obtain ⟨b10, b⟩ := Bool.and_eq_true_iff.mp b
  obtain ⟨b11, b⟩ := Bool.and_eq_true_iff.mp b
  obtain ⟨b12, b⟩ := Bool.and_eq_true_iff.mp b
  obtain ⟨b13, b⟩ := Bool.and_eq_true_iff.mp b
  obtain ⟨b14, b⟩ := Bool.and_eq_true_iff.mp b
  obtain ⟨b15, b16⟩ := Bool.and_eq_true_iff.mp b
  exact ⟨⟨b1, b2, b3, of_decide_eq_true b4, of_decide_eq_true b5, b6, b7, of_decide_eq_true b8, of_decide_eq_true b9, of_decide_eq_true b10, of_decide_eq_true b11, ⟨_, _, _, lc⟩, ⟨_, _, _, _, _, _, la, hv, hf⟩, top, ⟨_, _, _, _, _, _, _, l, cd⟩⟩, b7, b13, xfB_ok b14,
    fun f hf => of_decide_eq_true (List.all_eq_true.mp b15 f hf), of_decide_eq_true b12, of_decide_eq_true b16⟩
open PySem.XS
variable {txt : Str} {j : Nat} {a0 a1 a2 p0 p1 p2 p3 p4 p5 q1 q2 q3 q4 r1 r2 r3 r4 : Pos}
theorem xc0 (T : Bas Bn newId iN bmN B initId bmB) (X : K.In h) (G : h.Ns mainGlobals mg) (aC : PySem.W.nsIn K mainGlobals x = some (some (.ref C)))
    (l : K.lookup fI = some ⟨oc, od, .func (PySem.W.ksFn "__init__" qual (defArgs st) (defBody st) (defScope st) .none .none doc pm an (.ref cda) ct cc), osl⟩)
    (lc : K.lookup cc = some ⟨cl, cld, .cell (some (.ref C)), csl⟩) (la : K.lookup cda = some ⟨ccl, cdd, .fields vs, ccs⟩) (cd : PySem.W.codeIn K (.ref cda) qual = true) (b : ownB K C fI newId B initId bmB [] = true)
    (hv : vs[2]? = some (.str file tf)) (hf : ((P.main.file : Str) == file) = true) (top : (P.main.scope.names.lookup ("super" : Str)).isSome = false)
    (e1 : defArgs st = iArgs [aSelf a0]) (e2 : defBody st = [iSup txt j p0 p1 p2 p3 p4 p5]) (e3 : defScope st = iSc []) (hp : (p2.endLine == p4.line) = true) : Xc P w K mg x C [] := by
  rw [e1, e2, e3] at l
  obtain ⟨Z, k, i, f, n, s, ty⟩ := own_of b top l cd lc la hv hf
  exact ⟨PySem.W.mg_of X G aC, k, mkC0 T Z (PySem.W.mg_none_of X G s) hp, i, f, n, f.exC, ty⟩
theorem xc1 {f : Str} (T : Bas Bn newId iN bmN B initId bmB) (X : K.In h) (G : h.Ns mainGlobals mg) (aC : PySem.W.nsIn K mainGlobals x = some (some (.ref C)))
    (l : K.lookup fI = some ⟨oc, od, .func (PySem.W.ksFn "__init__" qual (defArgs st) (defBody st) (defScope st) .none .none doc pm an (.ref cda) ct cc), osl⟩)
    (lc : K.lookup cc = some ⟨cl, cld, .cell (some (.ref C)), csl⟩) (la : K.lookup cda = some ⟨ccl, cdd, .fields vs, ccs⟩) (cd : PySem.W.codeIn K (.ref cda) qual = true) (b : ownB K C fI newId B initId bmB [f] = true)
    (hv : vs[2]? = some (.str file tf)) (hf : ((P.main.file : Str) == file) = true) (top : (P.main.scope.names.lookup ("super" : Str)).isSome = false)
    (e1 : defArgs st = iArgs [aSelf a0, aPar f a1]) (e2 : defBody st = [iSup txt j p0 p1 p2 p3 p4 p5, iPut f q1 q2 q3 q4]) (e3 : defScope st = iSc [f]) (hp : (p2.endLine == p4.line) = true)
    (f1 : f ≠ "self") (f2 : f ≠ "super") (f3 : f ≠ "__class__") (f4 : (f == ("__debug__" : Str)) = false) (hb : Bd qual (iArgs [aSelf a0, aPar f a1]) [iSup txt j p0 p1 p2 p3 p4 p5, iPut f q1 q2 q3 q4] (iSc [f]) [f]) : Xc P w K mg x C [f] := by
  rw [e1, e2, e3] at l
  obtain ⟨Z, k, i, xf, n, s, ty⟩ := own_of b top l cd lc la hv hf
  exact ⟨PySem.W.mg_of X G aC, k, mkC1 T Z (PySem.W.mg_none_of X G s) hp f1 f2 f3 f4 (n f (by simp)) hb, i, xf, n, xf.exC, ty⟩
theorem xc2 {f g : Str} (T : Bas Bn newId iN bmN B initId bmB) (X : K.In h) (G : h.Ns mainGlobals mg) (aC : PySem.W.nsIn K mainGlobals x = some (some (.ref C)))
    (l : K.lookup fI = some ⟨oc, od, .func (PySem.W.ksFn "__init__" qual (defArgs st) (defBody st) (defScope st) .none .none doc pm an (.ref cda) ct cc), osl⟩)
    (lc : K.lookup cc = some ⟨cl, cld, .cell (some (.ref C)), csl⟩) (la : K.lookup cda = some ⟨ccl, cdd, .fields vs, ccs⟩) (cd : PySem.W.codeIn K (.ref cda) qual = true) (b : ownB K C fI newId B initId bmB [f, g] = true)
    (hv : vs[2]? = some (.str file tf)) (hf : ((P.main.file : Str) == file) = true) (top : (P.main.scope.names.lookup ("super" : Str)).isSome = false)
    (e1 : defArgs st = iArgs [aSelf a0, aPar f a1, aPar g a2]) (e2 : defBody st = [iSup txt j p0 p1 p2 p3 p4 p5, iPut f q1 q2 q3 q4, iPut g r1 r2 r3 r4]) (e3 : defScope st = iSc [f, g]) (hp : (p2.endLine == p4.line) = true)
    (f1 : f ≠ "self") (f2 : f ≠ "super") (f3 : f ≠ "__class__") (f4 : (f == ("__debug__" : Str)) = false) (g1 : g ≠ "self") (g2 : g ≠ "super") (g3 : g ≠ "__class__") (g4 : (g == ("__debug__" : Str)) = false) (fg : f ≠ g)
    (hb : Bd qual (iArgs [aSelf a0, aPar f a1, aPar g a2]) [iSup txt j p0 p1 p2 p3 p4 p5, iPut f q1 q2 q3 q4, iPut g r1 r2 r3 r4] (iSc [f, g]) [f, g]) : Xc P w K mg x C [f, g] := by
  rw [e1, e2, e3] at l
  obtain ⟨Z, k, i, xf, n, s, ty⟩ := own_of b top l cd lc la hv hf
  exact ⟨PySem.W.mg_of X G aC, k, mkC2 T Z (PySem.W.mg_none_of X G s) hp f1 f2 f3 f4 (n f (by simp)) g1 g2 g3 g4 (n g (by simp)) fg hb, i, xf, n, xf.exC, ty⟩
end
end L2

set_option Elab.async false
set_option linter.all false
set_option maxRecDepth 100000
set_option maxHeartbeats 2000000
/-! OP: the operators of own classes: +, - , *, unary -, ==, bool(x), str(x), len(x). -/
namespace L2
open PySem PySem.Spec PyProof.Rows
/-- the class at C has the method m, which keeps the promise sp -/
def HasM (P : Program) (w : World) (K : PySem.W.Frag) (mg : Str → Option Value) (base : Heap) (CX : CXT) (k : Nat) (C : Addr) (m : Str) (ps : List Str) (sp : Sp) : Prop :=
  ∃ f fd, FnOk P w K mg base CX k f fd ps sp ∧ PySem.W.findIn K (.ref C) m = some (some (.ref f)) ∧ PySem.W.isFn K (.ref f) = true ∧ PySem.W.keepIn K (.ref f) = true ∧ Binds K fd ps []
/-- a method of the text as it stands in its class -/
def DefM (K : PySem.W.Frag) (C : Addr) (m qual : Str) (st : Stmt) : Prop := ∃ f fd, Fun K m qual st f fd ∧ PySem.W.findIn K (.ref C) m = some (some (.ref f)) ∧ PySem.W.isFn K (.ref f) = true
theorem defM_mk {K : PySem.W.Frag} {C : Addr} {m qual : Str} {st : Stmt} {f : Addr} {oc : Value} {od an : Option Addr} {osl : Array (Option Value)} {kV doc pm cdv ct : Value}
    (a : PySem.W.findIn K (.ref C) m = some (some (.ref f))) (i : PySem.W.isFn K (.ref f) = true) (l : K.lookup f = some ⟨oc, od, .func (PySem.W.fnOf m qual (defArgs st) (defBody st) (defScope st) .none kV doc pm an cdv ct), osl⟩)
    (c : PySem.W.codeIn K cdv qual = true) (k : PySem.W.keepIn K (.ref f) = true) : DefM K C m qual st := ⟨f, _, fun_mk (st := st) l c k, a, i⟩
section
variable {X : Cx} {CX : CXT} {k j : Nat} {C : Addr} {m : Str} {ps : List Str} {sp : Sp} {E : XK}
theorem run_at {A : Around} {f : Addr} {fd : FuncData} {pins : List (Addr × Obj)} {σ : St} {H : Hp} {s : Shared} {Q : VK} {us : List Value} {vs : List V} (hA : A.frames = X.A.frames) (F : FnOk X.prog X.w X.K X.mg X.base CX k f fd ps sp) (hr : Room k A) (hb : Binds X.K fd ps []) (hx : Passes CX X E)
    (I : Inv X pins σ H s) (r : Vals vs us) (h : sp vs H Q E) : wpAny (model X.prog X.w) A (call (.ref f) us) (EP X pins σ Q) X.xe s := by
  have e := I.env0
  have e0 : Env0 X.prog X.w X.K X.mg X.base A X.stack s H := ⟨by rw [hA]; exact e.frames, e.mod, e.bs, e.bsz, e.funs, e.frf, e.hok, e.bare⟩
  have hl : us.length = ps.length := r.length.symm.trans (F.len _ _ _ _ h)
  have b := hb s us I.kIn (by simpa using hl)
  rw [List.append_nil] at b
  refine wpAny_call (codeAny_mono (F.run A X.stack s H ⟨us, []⟩ us vs Q E hr e0 b r h) fun r s' hq => ?_)
  match r, hq with
  | .error e, hq => exact hx pins σ H s e s' I hq
  | .ok (.ret u), hq => exact I.after hq
  | .ok .next, hq => exact False.elim hq
  | .ok .brk, hq => exact False.elim hq
  | .ok .cont, hq => exact False.elim hq
theorem RelV.notNI {x : V} {u : Value} (r : RelV x u) : u ≠ .notImplemented := by
  cases x <;> intro e <;> subst e <;> first | (obtain ⟨_, q⟩ := r; cases q) | cases r
theorem cmpBack_of {pins : List (Addr × Obj)} {σ : St} {Q : VK} {u : Value} {s' : Shared} (h : EP X pins σ Q u s') : PySem.W.CmpBack (EP X pins σ Q) u s' := by
  obtain ⟨v, H', I, r, q⟩ := h
  have n := r.notNI
  unfold PySem.W.CmpBack
  split
  · exact absurd rfl n
  · exact ⟨v, H', I, r, q⟩
/-- x op y of two instances of the class -/
def rOwn2 (C : Addr) (sp : Sp) (E : XK) : R2 := fun x y H Q => ∃ a b dx dy fs gs, x = .ref a ∧ y = .ref b ∧ H a = some (.ins C dx fs) ∧ H b = some (.ins C dy gs) ∧ sp [.ref a, .ref b] H Q E
theorem op_own {op : Operator} (O : HasM X.prog X.w X.K X.mg X.base CX k C m ps sp) (hc : PySem.W.selfFirst X.K C = true) (hr : Room j X.A) (hx : Passes CX X E) (e : PySem.dunder op.info.2 = m := by rfl) (hjk : k ≤ j := by decide) : OpR X (binaryOp op) (rOwn2 C sp E) := by
  obtain ⟨f, fd, F, hs, hf, hk, hb⟩ := O
  subst e
  intro pins s σ H x y v u Q I rx ry h
  obtain ⟨a, b, dx, dy, fs, gs, rfl, rfl, ha, hb', q⟩ := h
  cases rx
  cases ry
  obtain ⟨mA, J, _⟩ := ins_get I.hok ha
  obtain ⟨mB, J', _⟩ := ins_get I.hok hb'
  obtain ⟨od, J, _⟩ := J.look
  obtain ⟨od', J', _⟩ := J'.look
  obtain ⟨m, hF⟩ := I.fr
  refine PySem.W.binop_K hF I.ok.mod.kin J J'.type hc hs hf ?_
  exact wpAny_mono (run_at rfl F (hr.mono hjk) hb hx I (vs := [.ref a, .ref b]) (us := [.ref a, .ref b]) (.cons rfl (.cons rfl .nil)) q) (fun _ _ z => cmpBack_of z) fun _ _ z => z
/-- -x -/
def rOwn1 (C : Addr) (sp : Sp) (E : XK) : V → Hp → VK → Prop := fun x H Q => ∃ a dx fs, x = .ref a ∧ H a = some (.ins C dx fs) ∧ sp [.ref a] H Q E
theorem un_own (O : HasM X.prog X.w X.K X.mg X.base CX k C "__neg__" ps sp) (hr : Room j X.A) (hx : Passes CX X E) (hjk : k ≤ j := by decide) : UnR X (unaryOp .USub) (rOwn1 C sp E) := by
  obtain ⟨f, fd, F, hs, hf, hk, hb⟩ := O
  intro pins s σ H x u Q I rx h
  obtain ⟨a, dx, fs, rfl, ha, q⟩ := h
  cases rx
  obtain ⟨mA, J, _⟩ := ins_get I.hok ha
  obtain ⟨od, J, _⟩ := J.look
  obtain ⟨m, hF⟩ := I.fr
  exact PySem.W.ksp_neg hF I.ok.mod.kin J hs hf (run_at rfl F (hr.mono hjk) hb hx I (vs := [.ref a]) (us := [.ref a]) (.cons rfl .nil) q)
/-- x == y, x an instance of the class, y anything -/
def rOwnEq (K : PySem.W.Frag) (C : Addr) (sp : Sp) (E : XK) : R2 := fun x y H Q => ∃ a dx fs t, x = .ref a ∧ H a = some (.ins C dx fs) ∧ TyX K H y t ∧ PySem.W.notFirst K C t = true ∧ sp [.ref a, y] H Q E
theorem op_ownEq (O : HasM X.prog X.w X.K X.mg X.base CX k C "__eq__" ps sp) (hr : Room j X.A) (hx : Passes CX X E) (hjk : k ≤ j := by decide) : OpR X (compareOp .Eq) (rOwnEq X.K C sp E) := by
  obtain ⟨f, fd, F, hs, hf, hk, hb⟩ := O
  intro pins s σ H x y v u Q I rx ry h
  obtain ⟨a, dx, fs, t, rfl, ha, ty, nf, q⟩ := h
  cases rx
  obtain ⟨mA, J, _⟩ := ins_get I.hok ha
  obtain ⟨od, J, _⟩ := J.look
  obtain ⟨m, hF⟩ := I.fr
  obtain ⟨P, Z, p, _⟩ := kit_of I ry ty
  show wpAny (model X.prog X.w) X.A (richCompare .Eq (.ref a) u) (EP X pins σ Q) X.xe s
  refine PySem.W.cmp_K (op := .Eq) hr.units0 hF I.ok.mod.kin J (Z.ty _ _ I.kIn p) nf hs hf ?_
  exact wpAny_mono (run_at rfl F (hr.mono hjk) hb hx I (vs := [.ref a, y]) (us := [.ref a, u]) (.cons rfl (.cons ry .nil)) q) (fun _ _ z => cmpBack_of z) fun _ _ z => z
/-- str(x): __str__ gives a text -/
def rOwnStr (C : Addr) (sp : Sp) (E : XK) : List V → Hp → VK → Prop := fun xs H Q => ∃ a dx fs, xs = [.ref a] ∧ H a = some (.ins C dx fs) ∧ sp [.ref a] H (fun v H' => ∃ z, v = .str z ∧ Q v H') E
theorem call_ownStr (O : HasM X.prog X.w X.K X.mg X.base CX k C "__str__" ps sp) (hr : Room j X.A) (hx : Passes CX X E) (hjk : k + 1 ≤ j := by decide) : CallR X (.type "str") (rOwnStr C sp E) := by
  obtain ⟨f, fd, F, hs, hf, hk, hb⟩ := O
  intro pins s σ H xs us Q I r h
  obtain ⟨a, dx, fs, rfl, ha, q⟩ := h
  obtain ⟨u, rfl, rx⟩ := vals1 r
  cases rx
  obtain ⟨mA, J, _⟩ := ins_get I.hok ha
  obtain ⟨od, J, _⟩ := J.look
  have rm : Room k X.A.in1.in1 := by
    have r1 := hr.mono hjk
    exact ⟨r1.hd, by have := r1.dp; show X.A.depth + 3 * k + 5 < _; omega, by have := r1.un; show X.A.units + 1 + 1 + 16 * k + 200 < _; omega⟩
  refine PySem.W.kso_call (by have := rm.un; omega) I.kIn J hs hf ?_
  refine wpAny_mono (run_at rfl F rm hb hx I (vs := [.ref a]) (us := [.ref a]) (.cons rfl .nil) q) (fun u s' z => ?_) fun _ _ z => z
  obtain ⟨v, H', I', rv, z, rfl, q'⟩ := z
  obtain ⟨t, rfl⟩ := rv
  exact ⟨.str z, H', I', ⟨t, rfl⟩, q'⟩
/-- bool(x): __bool__ gives a truth -/
theorem call_boolOwn {prog : Program} {w : World} {A : Around} {E : Value → Shared → Prop} {s : Shared} {K : PySem.W.Frag} {x C f L : Addr} {h₀ : Heap} {m : Str → Option Value} {ox : Obj} {od : Option Obj} {Q : Value → Shared → Prop} (F : Fr h₀ L s.heap m) (X₀ : K.In h₀) (I : PySem.W.InstAt s.heap x ox C od)
    (hs : PySem.W.findIn K (.ref C) "__bool__" = some (some (.ref f))) (hf : PySem.W.isFn K (.ref f) = true)
    (h : wpAny (model prog w) A.in1.in1 (call (.ref f) [.ref x]) (PySem.W.BoolBack fun b s' => Q (.bool b) s') E s) : wpAny (model prog w) A (call (.type "bool") [.ref x]) Q E s := by
  refine callType_codes (T := "bool") (Bi := Builtin.«object.__init__») (Q₁ := fun r s₁ => ∃ b, r = .bool b ∧ Q r s₁) PySem.F.called_bool (PySem.F.typeCall_bool_1 _) PySem.F.entry_object_init ?_ ?_
  · refine codeAny_of_tree ?_
    show wpAny _ A.in1.in1 (do checkBuiltinCall "bool.__new__" ⟨[.type "bool", .ref x], []⟩; again (.builtin "bool.__new__" ⟨[.type "bool", .ref x], []⟩)) _ _ s
    refine wpAny_bind (wpAny_of_eq (PySem.F.newCall_bool_1 _) (wpAny_pure ⟨plainId_quiet (by decide +kernel) _, codeAny_builtin PySem.F.entry_bool_new ?_⟩))
    rw [Around.under_plainId (by decide +kernel) _]
    have f1 := PySem.F.conv_sub_bool
    have tr : ∀ {Q' : Bool → Shared → Prop} {E' : Value → Shared → Prop}, wpAny (model prog w) A.in1.in1 (call (.ref f) [.ref x]) (PySem.W.BoolBack Q') E' s → wpAny (model prog w) A.in1.in1 (truthy (.ref x)) Q' E' s := fun z => PySem.W.truthy_K F X₀ I hs hf z
    obtain ⟨hp, g, d, tk, os⟩ := s
    repeat (any_goals (first | assumption | (with_reducible refine tr (wpAny_mono h (fun r s₁ hr => ?_) fun _ _ y => y)) | wp_step))
    cases r <;> first | exact hr.elim | skip
    rename_i b
    show wpAny _ _ _ _ _ _
    exact wpAny_pure ⟨b, rfl, hr⟩
  · rintro obj s₁ ⟨b, rfl, hq⟩
    have tb : s₁.TypeIs (.bool b) "bool" := by first | exact typeIs_bool _ _ | rfl
    exact ⟨tb, PySem.F.args_object_init_2 _ _, object_init_meets PySem.F.called_bool.init.lookup PySem.F.called_bool.made (by decide) prog w A.in1 _ s₁ ⟨tb, rfl, hq⟩⟩
/-- bool(x) -/
def rOwnBool (C : Addr) (sp : Sp) (E : XK) : List V → Hp → VK → Prop := fun xs H Q => ∃ a dx fs, xs = [.ref a] ∧ H a = some (.ins C dx fs) ∧ sp [.ref a] H (fun v H' => ∃ z, v = .bl z ∧ Q v H') E
theorem call_ownBool (O : HasM X.prog X.w X.K X.mg X.base CX k C "__bool__" ps sp) (hr : Room j X.A) (hx : Passes CX X E) (hjk : k + 1 ≤ j := by decide) : CallR X (.type "bool") (rOwnBool C sp E) := by
  obtain ⟨f, fd, F, hs, hf, hk, hb⟩ := O
  intro pins s σ H xs us Q I r h
  obtain ⟨a, dx, fs, rfl, ha, q⟩ := h
  obtain ⟨u, rfl, rx⟩ := vals1 r
  cases rx
  obtain ⟨mA, J, _⟩ := ins_get I.hok ha
  obtain ⟨od, J, _⟩ := J.look
  obtain ⟨m, hF⟩ := I.fr
  have rm : Room k X.A.in1.in1 := by
    have r1 := hr.mono hjk
    exact ⟨r1.hd, by have := r1.dp; show X.A.depth + 3 * k + 5 < _; omega, by have := r1.un; show X.A.units + 1 + 1 + 16 * k + 200 < _; omega⟩
  refine call_boolOwn hF I.ok.mod.kin J hs hf ?_
  refine wpAny_mono (run_at rfl F rm hb hx I (vs := [.ref a]) (us := [.ref a]) (.cons rfl .nil) q) (fun u s' z => ?_) fun _ _ z => z
  obtain ⟨v, H', I', rv, z, rfl, q'⟩ := z
  cases rv
  exact ⟨.bl z, H', I', rfl, q'⟩
end
end L2

set_option Elab.async false
set_option linter.all false
set_option maxRecDepth 100000
set_option maxHeartbeats 2000000
/-! TX: text * int, // by any divisor, classes and methods by their names. -/
namespace L2
open PySem PySem.Spec PyProof.Rows
section
variable {X : Cx}
def rMulS : R2 := fun x y H Q => ∃ (z : Str) (n : Int), x = .str z ∧ y = .int n ∧ MulOk z n ∧ Q (.str (Txt.mul z n)) H
theorem op_mulS : OpR X (binaryOp .Mult) rMulS := by
  intro pins s σ H x y v u Q I rx ry h
  obtain ⟨z, n, rfl, rfl, hok, q⟩ := h
  obtain ⟨t, rfl⟩ := rx
  obtain ⟨t', rfl⟩ := ry
  exact PySem.SB.mul hok fun t k => ⟨.str _, H, I.tok _, ⟨_, rfl⟩, q⟩
/-- // by any divisor but 0, below 2 ^ 9000 in size -/
def CDivZ (_ j : Int) : Prop := j ≠ 0 ∧ j.natAbs.log2 < 9000
theorem op_fdivZ : OpR X (binaryOp .FloorDiv) (rI CDivZ fun i j => .int (i.fdiv j)) := opI fun i j _ _ _ _ _ hc q => floordiv_int hc.1 q (.inl (PyProof.noPylong_of_log2 hc.2))
end
/-- the class x stands at C; its __init__ keeps the promise sp; dvs: the defaults that fill up -/
def HasC (P : Program) (w : World) (K : PySem.W.Frag) (mg : Str → Option Value) (base : Heap) (CX : CXT) (k : Nat) (C : Addr) (x : Str) (ps : List Str) (dvs : List V) (sp : Sp) : Prop :=
  ∃ f fd ds, FnOk P w K mg base CX k f fd ps sp ∧ Mk K C f ∧ mg x = some (.ref C) ∧ Binds K fd ps ds ∧ Vals dvs ds
def tMakeO (C : Addr) (sp : Sp) (dvs : List V) (E : St → XK) (t : TA) : TE := fun σ H Q => t σ H fun vs H1 => ∀ x dx, H1 x = none → H1 dx = none → dx ≠ x →
  sp (.ref x :: (vs ++ dvs)) (upd (upd H1 dx (.own x)) x (.ins C dx [])) (fun v H2 => v = .non ∧ Q (.ref x) H2) (E σ)
section
variable {X : Cx} {CX : CXT} {k j : Nat} {C f : Addr} {fd : FuncData} {ps : List Str} {sp : Sp} {dvs : List V} {ds : List Value} {E : St → XK} {x m : Str} {p pos apos : Pos} {e o : Expr} {es : List Expr} {ta : TE} {t : TA}
theorem run_makeS {pins : List (Addr × Obj)} {σ : St} {H : Hp} {s : Shared} {Q : VK} {us : List Value} {vs : List V} (M : Mk X.K C f) (F : FnOk X.prog X.w X.K X.mg X.base CX k f fd ps sp) (hr : Room (k + 1) X.A) (hb : Binds X.K fd ps ds) (hd : Vals dvs ds)
    (hx : PassesAt CX X σ (E σ)) (I : Inv X pins σ H s) (r : Vals vs us)
    (h : ∀ x dx, H x = none → H dx = none → dx ≠ x → sp (.ref x :: (vs ++ dvs)) (upd (upd H dx (.own x)) x (.ins C dx [])) (fun v H2 => v = .non ∧ Q (.ref x) H2) (E σ)) :
    wpAny (model X.prog X.w) X.A (call (.ref C) us) (EP X pins σ Q) X.xe s := by
  have q := h (s.heap.objs.size + 1) s.heap.objs.size (I.hok.fresh (Nat.le_succ _)) (I.hok.fresh (Nat.le_refl _)) (Nat.ne_of_lt (Nat.lt_succ_self _))
  have J := Inv.made (C := C) I
  have rr : Vals (V.ref (s.heap.objs.size + 1) :: (vs ++ dvs)) (Value.ref (s.heap.objs.size + 1) :: (us ++ ds)) := .cons rfl (r.append hd)
  have hl : (Value.ref (s.heap.objs.size + 1) :: us ++ ds).length = ps.length := rr.length.symm.trans (F.len _ _ _ _ q)
  refine wpAny_call (make_map (f := f) I.kIn M.makes M.init (beq_iff_eq.mp M.fn) (codeAny_mono (F.run _ X.stack _ _ ⟨Value.ref (s.heap.objs.size + 1) :: us, []⟩ (Value.ref (s.heap.objs.size + 1) :: (us ++ ds)) _ _ (E σ) (hr.make C us [])
    (J.env0.make C us []) (hb _ (Value.ref (s.heap.objs.size + 1) :: us) J.kIn hl) rr q) fun r s' hq => ?_))
  match r, hq with
  | .error e, hq => exact hx pins _ _ e s' J hq
  | .ok (.ret u), hq =>
    obtain ⟨v, H', J', rv, ev, q'⟩ := J.after hq
    subst ev
    exact ⟨rv, ⟨V.ref (s.heap.objs.size + 1), H', J', rfl, q'⟩⟩
  | .ok .next, hq => exact False.elim hq
  | .ok .brk, hq => exact False.elim hq
  | .ok .cont, hq => exact False.elim hq
theorem pe_makeS (O : HasC X.prog X.w X.K X.mg X.base CX k C x ps dvs sp) (hr : Room j X.A) (hg : Gl X x) (hx : ∀ σ, PassesAt CX X σ (E σ)) (ha : PA X (e :: es) t) (hjk : k + 1 ≤ j := by decide)
    (hdb : (x == ("__debug__" : Str)) = false := by decide) (he : starEach (e :: es) X.env = (false, eval e X.env) :: starEach es X.env := by rfl) (hpl : (backTo pos (starEach es X.env)).any (·.1) = false := by rfl) :
    PE X (.Call (.Name x p) (e :: es) [] pos) (tMakeO C sp dvs E t) := by
  obtain ⟨f, fd, ds, F, M, hm, hb, hd⟩ := O
  refine ⟨fun pins s σ H Q I h => ?_⟩
  refine wpAny_Call_Name_kw (ld_glob I hg hm ?_ hdb)
  exact PySem.W.callWith_K (h₀ := X.base) I.ok.mod.kin M.kp (thn (ha.run pos pins s σ H _ I h) fun us s1 ⟨vs, H1, I1, r, q⟩ => ⟨I1.kIn, run_makeS M F (hr.mono hjk) hb hd (hx σ) I1 r q⟩) he hpl
/-- nothing is let out -/
theorem passS {X : Cx} : ∀ σ, PassesAt (L2.CX X.prog X.w) X σ ((fun _ => E0) σ) := fun σ pins H s e s' I h => passL pins σ H s e s' I h
theorem pass0S {X : Cx} : ∀ σ, PassesAt CX0 X σ ((fun _ => E0) σ) := fun _ _ _ _ _ _ _ h => h.elim
def tMethO (C : Addr) (m : Str) (sp : Sp) (E : XK) (ta : TE) (t : TA) : TE := fun σ H Q => ta σ H fun x H1 => ∃ a dx fs, x = .ref a ∧ H1 a = some (.ins C dx fs) ∧ fs.lookup m = none ∧ t σ H1 fun vs H2 => sp (x :: vs) H2 Q E
theorem pe_methO {E : XK} {pl : Sem Bool} (he : PE X o ta) (c : Cls X.K C) (O : HasM X.prog X.w X.K X.mg X.base CX k C m ps sp) (hr : Room j X.A) (hx : Passes CX X E) (ha : PA X (e :: es) t) (hjk : k ≤ j := by decide)
    (hst : starEach (e :: es) X.env = (false, eval e X.env) :: starEach es X.env := by rfl) (hpl : (backTo pos (starEach es X.env)).any (·.1) = false := by rfl)
    (ht : eval (.Call (.Attribute o m apos) (e :: es) [] pos) X.env = (do
      let ov ← eval o X.env
      standAt apos.atName
      let (f, first) ← holding [ov] (getMethod ov m pl)
      callWith pos f first (backTo pos (starEach (e :: es) X.env)) (backToKw pos (keywordEach [] X.env))) := by rfl) :
    PE X (.Call (.Attribute o m apos) (e :: es) [] pos) (tMethO C m sp E ta t) := by
  obtain ⟨f, fd, F, hs, hf, hk, hb⟩ := O
  have q := pe_meth (E := E) (dvs := []) (ds := []) (pl := pl) (apos := apos) (pos := pos) he c ⟨hs, hf, hk⟩ F (hr.mono hjk) hb .nil hx ha hst hpl ht
  refine ⟨fun pins s σ H Q I h => q.run pins s σ H Q I ?_⟩
  have z : ∀ (x : V), (fun (vs : List V) H1 => sp (x :: (vs ++ [])) H1 Q E) = fun vs H1 => sp (x :: vs) H1 Q E := fun x => by
    funext vs H1
    rw [List.append_nil]
  have z2 : (fun (x : V) H1 => ∃ a dx fs, x = .ref a ∧ H1 a = some (.ins C dx fs) ∧ fs.lookup m = none ∧ t σ H1 fun vs H2 => sp (x :: (vs ++ [])) H2 Q E) = fun x H1 => ∃ a dx fs, x = .ref a ∧ H1 a = some (.ins C dx fs) ∧ fs.lookup m = none ∧ t σ H1 fun vs H2 => sp (x :: vs) H2 Q E := by
    funext x H1
    rw [z x]
  show ta σ H (fun (x : V) H1 => ∃ a dx fs, x = .ref a ∧ H1 a = some (.ins C dx fs) ∧ fs.lookup m = none ∧ t σ H1 fun vs H2 => sp (x :: (vs ++ [])) H2 Q E)
  rw [z2]
  exact h
end
end L2

set_option Elab.async false
set_option linter.all false
set_option maxRecDepth 100000
set_option maxHeartbeats 1000000
/-! EV6: displays, built-ins, tests. -/
namespace EV
open PySem L2
variable {K : PySem.W.Frag} {B B' B0 : Bs} {H H1 H2 H' : Hp} {σ : St} {ρ ρ1 ρ2 : Env} {S S1 S2 S' : Nat → List Addr} {s s1 s2 : List Addr} {E : St → XK} {Q : VK}
/-- a value, frozen -/
def vIce (F : VE) : VE := fun ρ => (F ρ).bind fun q => .ok (q.1, q.2.ice)
theorem ev_ice {t : TE} {F : VE} (h : EV K E t F) : EV K E t (vIce F) := fun B0 σ H ρ S Q e p => by
  refine h B0 σ H ρ S Q e ?_
  unfold vIce at p
  cases hF : F ρ with
  | bad => rw [hF] at p; exact p.elim
  | exc ρ' x => rw [hF] at p; exact p
  | ok q =>
    obtain ⟨ρ1, d⟩ := q
    rw [hF] at p
    intro v H' S' s e1 r n a t
    refine p v H' S' [] e1.less.nil (r.ice fun a' o q n' z => ?_) List.nodup_nil (fun _ m => nomatch m) (t.sub fun _ m => nomatch m)
    have z' : bl B0 S' a' := z.imp (fun z => z.elim id fun m => nomatch m) id
    rcases n' with n' | n'
    · exact n' (z'.imp .inl id)
    · rcases z' with z' | ⟨i, z'⟩
      · exact a a' n' z'
      · exact e1.av i a' z' (.inr n')
/-- an operand that is kept: frozen -/
abbrev vKeep (F : VE) : VA := vVal (vIce F)
theorem ar_keep {t : TE} {F : VE} (h : EV K E t F) : AR K E t (vKeep F) := ar_val (ev_ice h)
/-! ### displays -/
def fTup : List D → Option D := fun ds => if fzs ds && decide (ds.length ≤ LIM) then some (.tup true ds) else none
def fLst : List D → Option D := fun ds => if fzs ds && decide (ds.length ≤ LIM) then some (.lst true ds) else none
theorem ev_tup {u : TA} {F : VL} (h : AL K E u F) : EV K E (tTup u) (vOp fTup F) := by
  refine ev_op (r := fun xs H1 Q => xs.length ≤ sizeLine ∧ ∀ p, H1 p = none → Q (.ref p) (upd H1 p (.tup xs))) h ?_ fun _ _ _ h => h
  intro B H vs ds d Q hB hr hf q
  unfold fTup at hf
  split at hf
  · rename_i c
    cases hf
    obtain ⟨c1, c2⟩ := Bool.and_eq_true_iff.mp c
    have t := hr.fr c1
    exact ⟨by rw [t.len]; exact Nat.le_trans (of_decide_eq_true c2) lim, fun p np => Res.tupN hB q t np⟩
  · cases hf
theorem ev_lst {u : TA} {F : VL} (h : AL K E u F) : EV K E (tLst u) (vOp fLst F) := by
  refine ev_op (r := fun xs H1 Q => xs.length ≤ sizeLine ∧ ∀ p, H1 p = none → Q (.ref p) (upd H1 p (.lst xs))) h ?_ fun _ _ _ h => h
  intro B H vs ds d Q hB hr hf q
  unfold fLst at hf
  split at hf
  · rename_i c
    cases hf
    obtain ⟨c1, c2⟩ := Bool.and_eq_true_iff.mp c
    have t := hr.fr c1
    exact ⟨by rw [t.len]; exact Nat.le_trans (of_decide_eq_true c2) lim, fun p np => Res.lst q t np⟩
  · cases hf
/-! ### built-ins -/
theorem ev_cb {u : TA} {F : VL} {r : List V → Hp → VK → Prop} {f : List D → Option D} (h : AL K E u F) (o : OPS K r f) : EV K E (tCB r u) (vOp f F) := ev_op h o fun _ _ _ h => h
def lenD : D → Option Int
  | .str z => if z.length ≤ LIM then some z.length else none
  | d => d.seq?.map fun xs => (xs.length : Int)
def fLen : List D → Option D
  | [d] => (lenD d).map D.int
  | _ => none
def uLen (K : PySem.W.Frag) : List V → Hp → VK → Prop := fun xs H Q => (∃ p ys, xs = [.ref p] ∧ (SqL K H p ys ∨ SqT K H p ys) ∧ Q (.int ys.length) H) ∨ ∃ z, xs = [.str z] ∧ z.length ≤ sizeLine ∧ Q (.int z.length) H
theorem u_len {X : Cx} : CallR X (.builtin "len") (uLen X.K) := call_len_seq.or call_len_str
theorem o_len : OPS K (uLen K) fLen := by
  intro B H vs ds d Q hB hr hf q
  match ds, hr, hf with
  | [c], .cons r .nil, e =>
    simp only [fLen] at e
    unfold lenD at e
    split at e
    · rename_i z
      cases r
      split at e
      · rename_i hz
        cases e
        exact .inr ⟨z, rfl, Nat.le_trans hz lim, q.int⟩
      · cases e
    · cases es : c.seq? with
      | none => rw [es] at e; cases e
      | some xs =>
        rw [es] at e
        cases e
        obtain ⟨p, ws, S, rfl, sq, t⟩ := r.seq es
        refine .inl ⟨p, ws, rfl, sq, ?_⟩
        rw [t.len]
        exact q.int
def fAbs : List D → Option D
  | [.int i] => some (.int (if i < 0 then -i else i))
  | _ => none
theorem o_abs : OPS K (fun xs H Q => ∃ i, xs = [V.int i] ∧ Q (.int (if i < 0 then -i else i)) H) fAbs := by
  intro B H vs ds d Q hB hr hf q
  match ds, hr, hf with
  | [.int i], .cons .int .nil, e => cases e; exact ⟨i, rfl, q.int⟩
def fMax2 : List D → Option D := fI fun i j => .int (if j > i then j else i)
def fMin2 : List D → Option D := fI fun i j => .int (if j < i then j else i)
theorem o_ii {g : Int → Int → Int} : OPS K (fun xs H Q => ∃ i j, xs = [V.int i, V.int j] ∧ Q (.int (g i j)) H) (fI fun i j => .int (g i j)) := by
  intro B H vs ds d Q hB hr hf q
  match ds, hr, hf with
  | [.int i, .int j], .cons .int (.cons .int .nil), e => cases e; exact ⟨i, j, rfl, q.int⟩
def fInt : List D → Option D
  | [.int i] => some (.int i)
  | [.bl k] => some (.int (if k then 1 else 0))
  | _ => none
theorem o_int : OPS K (fun xs H Q => (∃ i, xs = [V.int i] ∧ Q (.int i) H) ∨ ∃ k, xs = [V.bl k] ∧ Q (.int (if k then 1 else 0)) H) fInt := by
  intro B H vs ds d Q hB hr hf q
  match ds, hr, hf with
  | [.int i], .cons .int .nil, e => cases e; exact .inl ⟨i, rfl, q.int⟩
  | [.bl i], .cons .bl .nil, e => cases e; exact .inr ⟨i, rfl, q.int⟩
def fStr : List D → Option D
  | [.int i] => if i.natAbs.log2 < 1920 then some (.str (toString i)) else none
  | _ => none
theorem o_str : OPS K (fun xs H Q => ∃ i : Int, xs = [V.int i] ∧ i.natAbs.log2 < 1920 ∧ Q (.str (toString i)) H) fStr := by
  intro B H vs ds d Q hB hr hf q
  match ds, hr, hf with
  | [.int i], .cons .int .nil, e =>
    simp only [fStr] at e
    split at e
    · rename_i c
      cases e
      exact ⟨i, rfl, c, q.str⟩
    · cases e
def fList : List D → Option D
  | [d] => match d.seq? with
    | some xs => if fzs xs then some (.lst true xs) else none
    | none => none
  | _ => none
theorem o_list : OPS K (fun xs H Q => ∃ p ys, xs = [V.ref p] ∧ (SqL K H p ys ∨ SqT K H p ys) ∧ ∀ l, H l = none → Q (.ref l) (upd H l (.lst ys))) fList := by
  intro B H vs ds d Q hB hr hf q
  match ds, hr, hf with
  | [c], .cons r .nil, e =>
    simp only [fList] at e
    cases es : c.seq? with
    | none => rw [es] at e; cases e
    | some xs =>
      rw [es] at e
      dsimp only at e
      split at e
      · rename_i hf'
        cases e
        obtain ⟨p, ws, S, rfl, sq, t⟩ := r.seq es
        exact ⟨p, ws, rfl, sq, fun l nl => Res.lst q (t.fr hf') nl⟩
      · cases e
def fMul : List D → Option D
  | [.int i, .int j] => if i.natAbs.log2 + j.natAbs.log2 < 1000000 then some (.int (i * j)) else none
  | [.lst _ xs, .int k] => if fzs xs && (decide (0 ≤ k) && (decide (k ≤ 1000000) && decide (xs.length * k.toNat ≤ LIM))) then some (.lst true (List.replicate k.toNat xs).flatten) else none
  | [.str z, .int k] => if z.length ≤ 1000 ∧ 0 ≤ k ∧ k ≤ 1000 then some (.str (Txt.mul z k)) else none
  | _ => none
end EV

set_option Elab.async false
set_option linter.all false
set_option maxRecDepth 100000
set_option maxHeartbeats 1000000
/-! EV7: tests, statements. -/
namespace EV
open PySem L2
variable {K : PySem.W.Frag} {B B' B0 : Bs} {H H1 H2 H' : Hp} {σ σ' σ1 : St} {ρ ρ1 ρ2 : Env} {S S1 S2 S' : Nat → List Addr} {s s1 s2 : List Addr} {E : St → XK} {Q : VK}
/-! ### tests -/
abbrev VT := Env → Out (Env × Bool)
def TPost (K : PySem.W.Frag) (E : St → XK) (B0 : Bs) (σ : St) (H : Hp) (S : Nat → List Addr) (Q : Bool → Hp → Prop) : Out (Env × Bool) → Prop
  | .ok (ρ', b) => ∀ H' S', EnvR K B0 H' σ ρ' S' → Step H S H' S' [] → Q b H'
  | .exc ρ' x => XP K E B0 σ H S ρ' x
  | .bad => False
def TV (K : PySem.W.Frag) (E : St → XK) (t : TT) (F : VT) : Prop := ∀ B0 σ H ρ S Q, EnvR K B0 H σ ρ S → TPost K E B0 σ H S Q (F ρ) → t σ H Q
def vB (F : VE) : VT := fun ρ => (F ρ).bind fun q => match q.2 with
  | .bl b => .ok (q.1, b)
  | _ => .bad
theorem tv_test {t : TE} {F : VE} (h : EV K E t F) : TV K E (tTest t) (vB F) := fun B0 σ H ρ S Q e p => by
  refine h B0 σ H ρ S _ e ?_
  unfold vB at p
  cases hF : F ρ with
  | bad => rw [hF] at p; exact p.elim
  | exc ρ' x => rw [hF] at p; exact p
  | ok q =>
    obtain ⟨ρ1, d⟩ := q
    rw [hF] at p
    intro v H' S' s e1 r n a t
    cases r with
    | bl => exact ⟨_, rfl, p H' S' e1.less (t.sub fun _ m => nomatch m)⟩
    | _ => exact p.elim
theorem tv_val {t : TE} {F : VE} (h : EV K E t F) : TV K E (tB t) (vB F) := tv_test h
def vAndT (F G : VT) : VT := fun ρ => (F ρ).bind fun q => if q.2 then G q.1 else .ok (q.1, false)
def vOrT (F G : VT) : VT := fun ρ => (F ρ).bind fun q => if q.2 then .ok (q.1, true) else G q.1
def vNotT (F : VT) : VT := fun ρ => (F ρ).bind fun q => .ok (q.1, !q.2)
theorem TPost.back {F : Out (Env × Bool)} {Q : Bool → Hp → Prop} (t : Step H S H1 S1 []) (h : TPost K E B0 σ H S Q F) : TPost K E B0 σ H1 S1 Q F := by
  cases F with
  | bad => exact h
  | exc ρ' x => exact XP.back0 t h
  | ok q => exact fun H' S' e u => h H' S' e (t.trans u)
theorem Post.back {F : Out (Env × D)} (t : Step H S H1 S1 []) (h : Post K E B0 σ H S Q F) : Post K E B0 σ H1 S1 Q F := by
  cases F with
  | bad => exact h
  | exc ρ' x => exact XP.back0 t h
  | ok q => exact fun v H' S' s e r n a u => h v H' S' s e r n a (t.trans u)
theorem tv_and {t u : TT} {F G : VT} (h1 : TV K E t F) (h2 : TV K E u G) : TV K E (tAnd t u) (vAndT F G) := fun B0 σ H ρ S Q e p => by
  refine h1 B0 σ H ρ S _ e ?_
  unfold vAndT at p
  cases hF : F ρ with
  | bad => rw [hF] at p; exact p.elim
  | exc ρ' x => rw [hF] at p; exact p
  | ok q =>
    obtain ⟨ρ1, b⟩ := q
    rw [hF] at p
    intro H1 S1 e1 t1
    cases b with
    | true => exact h2 B0 σ H1 ρ1 S1 Q e1 (TPost.back t1 p)
    | false => exact p H1 S1 e1 t1
theorem tv_or {t u : TT} {F G : VT} (h1 : TV K E t F) (h2 : TV K E u G) : TV K E (tOr t u) (vOrT F G) := fun B0 σ H ρ S Q e p => by
  refine h1 B0 σ H ρ S _ e ?_
  unfold vOrT at p
  cases hF : F ρ with
  | bad => rw [hF] at p; exact p.elim
  | exc ρ' x => rw [hF] at p; exact p
  | ok q =>
    obtain ⟨ρ1, b⟩ := q
    rw [hF] at p
    intro H1 S1 e1 t1
    cases b with
    | false => exact h2 B0 σ H1 ρ1 S1 Q e1 (TPost.back t1 p)
    | true => exact p H1 S1 e1 t1
theorem tv_not {t : TT} {F : VT} (h1 : TV K E t F) : TV K E (tNot t) (vNotT F) := fun B0 σ H ρ S Q e p => by
  refine h1 B0 σ H ρ S _ e ?_
  unfold vNotT at p
  cases hF : F ρ with
  | bad => rw [hF] at p; exact p.elim
  | exc ρ' x => rw [hF] at p; exact p
  | ok q =>
    obtain ⟨ρ1, b⟩ := q
    rw [hF] at p
    exact p
/-! ### and, or, not, if as values -/
def vAnd (F G : VE) : VE := fun ρ => (F ρ).bind fun q => match q.2 with
  | .bl true => G q.1
  | .bl false => .ok (q.1, .bl false)
  | _ => .bad
def vOr (F G : VE) : VE := fun ρ => (F ρ).bind fun q => match q.2 with
  | .bl true => .ok (q.1, .bl true)
  | .bl false => G q.1
  | _ => .bad
def vNot (F : VE) : VE := fun ρ => (F ρ).bind fun q => match q.2 with
  | .bl b => .ok (q.1, .bl (!b))
  | _ => .bad
def vIf (T : VT) (F G : VE) : VE := fun ρ => (T ρ).bind fun q => if q.2 then F q.1 else G q.1
theorem R.bl_s {v : V} {b : Bool} (r : R K B H v (.bl b) s) : s = [] ∧ v = .bl b := by cases r; exact ⟨rfl, rfl⟩
theorem ev_and {t u : TE} {F G : VE} (h1 : EV K E t F) (h2 : EV K E u G) : EV K E (tAndV t u) (vAnd F G) := fun B0 σ H ρ S Q e p => by
  refine h1 B0 σ H ρ S _ e ?_
  unfold vAnd at p
  cases hF : F ρ with
  | bad => rw [hF] at p; exact p.elim
  | exc ρ' x => rw [hF] at p; exact p
  | ok q =>
    obtain ⟨ρ1, d⟩ := q
    rw [hF] at p
    intro v H1 S1 s1 e1 r n a t
    cases d with
    | bl b =>
      obtain ⟨rfl, rfl⟩ := r.bl_s
      cases b with
      | true => exact ⟨_, rfl, h2 B0 σ H1 ρ1 S1 Q e1.less (Post.back t p)⟩
      | false => exact ⟨_, rfl, p _ H1 S1 [] e1 .bl List.nodup_nil (fun _ m => nomatch m) t⟩
    | _ => exact p.elim
theorem ev_or {t u : TE} {F G : VE} (h1 : EV K E t F) (h2 : EV K E u G) : EV K E (tOrV t u) (vOr F G) := fun B0 σ H ρ S Q e p => by
  refine h1 B0 σ H ρ S _ e ?_
  unfold vOr at p
  cases hF : F ρ with
  | bad => rw [hF] at p; exact p.elim
  | exc ρ' x => rw [hF] at p; exact p
  | ok q =>
    obtain ⟨ρ1, d⟩ := q
    rw [hF] at p
    intro v H1 S1 s1 e1 r n a t
    cases d with
    | bl b =>
      obtain ⟨rfl, rfl⟩ := r.bl_s
      cases b with
      | false => exact ⟨_, rfl, h2 B0 σ H1 ρ1 S1 Q e1.less (Post.back t p)⟩
      | true => exact ⟨_, rfl, p _ H1 S1 [] e1 .bl List.nodup_nil (fun _ m => nomatch m) t⟩
    | _ => exact p.elim
theorem ev_not {t : TE} {F : VE} (h1 : EV K E t F) : EV K E (tNotV t) (vNot F) := fun B0 σ H ρ S Q e p => by
  refine h1 B0 σ H ρ S _ e ?_
  unfold vNot at p
  cases hF : F ρ with
  | bad => rw [hF] at p; exact p.elim
  | exc ρ' x => rw [hF] at p; exact p
  | ok q =>
    obtain ⟨ρ1, d⟩ := q
    rw [hF] at p
    intro v H1 S1 s1 e1 r n a t
    cases d with
    | bl b =>
      obtain ⟨rfl, rfl⟩ := r.bl_s
      exact ⟨_, rfl, p _ H1 S1 [] e1 .bl List.nodup_nil (fun _ m => nomatch m) t⟩
    | _ => exact p.elim
theorem ev_if {c : TT} {t u : TE} {T : VT} {F G : VE} (h0 : TV K E c T) (h1 : EV K E t F) (h2 : EV K E u G) : EV K E (tIf c t u) (vIf T F G) := fun B0 σ H ρ S Q e p => by
  refine h0 B0 σ H ρ S _ e ?_
  unfold vIf at p
  cases hF : T ρ with
  | bad => rw [hF] at p; exact p.elim
  | exc ρ' x => rw [hF] at p; exact p
  | ok q =>
    obtain ⟨ρ1, b⟩ := q
    rw [hF] at p
    intro H1 S1 e1 t1
    cases b with
    | true => exact h1 B0 σ H1 ρ1 S1 Q e1 (Post.back t1 p)
    | false => exact h2 B0 σ H1 ρ1 S1 Q e1 (Post.back t1 p)
/-! ### statements -/
def Fr (W : List Nat) (σ σ' : St) : Prop := ∀ j, j ∉ W → σ'[j]? = σ[j]?
theorem Fr.refl {W : List Nat} : Fr W σ σ := fun _ _ => rfl
theorem Fr.trans {W W1 W2 : List Nat} {σ2 : St} (a : Fr W1 σ σ1) (b : Fr W2 σ1 σ2) (h1 : ∀ j ∈ W1, j ∈ W) (h2 : ∀ j ∈ W2, j ∈ W) : Fr W σ σ2 := fun j n => (b j fun m => n (h2 j m)).trans (a j fun m => n (h1 j m))
theorem Fr.mono {W W1 : List Nat} (a : Fr W1 σ σ1) (h1 : ∀ j ∈ W1, j ∈ W) : Fr W σ σ1 := fun j n => a j fun m => n (h1 j m)
def SPost (K : PySem.W.Frag) (E : St → XK) (W : List Nat) (B0 : Bs) (σ : St) (H : Hp) (S : Nat → List Addr) (D : Ends) : Out (Env × Ctl) → Prop
  | .ok (ρ', .nx) => ∀ σ' H' S', EnvR K B0 H' σ' ρ' S' → Step H S H' S' [] → Fr W σ σ' → D.nx σ' H'
  | .ok (ρ', .bk) => ∀ σ' H' S', EnvR K B0 H' σ' ρ' S' → Step H S H' S' [] → Fr W σ σ' → D.bk σ' H'
  | .ok (ρ', .ct) => ∀ σ' H' S', EnvR K B0 H' σ' ρ' S' → Step H S H' S' [] → Fr W σ σ' → D.ct σ' H'
  | .ok (ρ', .rt d) => ∀ v σ' H' S' s, EnvR K (pl B0 s) H' σ' ρ' S' → R K (bl (pl B0 s) S') H' v d s → s.Nodup → (∀ a ∈ s, ¬ B0 a) → Step H S H' S' s → Fr W σ σ' → D.rt v H'
  | .exc ρ' x => ∀ σ' H' S' dd, EnvR K B0 H' σ' ρ' S' → XR K (bl B0 S') H' x dd → Step H S H' S' [] → Fr W σ σ' → E σ' (.ref x.C) dd H'
  | .bad => False
def SV (K : PySem.W.Frag) (E : St → XK) (W : List Nat) (t : TS) (F : VS) : Prop := ∀ B0 σ H ρ S D, EnvR K B0 H σ ρ S → SPost K E W B0 σ H S D (F ρ) → t D σ H
theorem SPost.back {W W1 W2 : List Nat} {F : Out (Env × Ctl)} {D : Ends} (t : Step H S H1 S1 []) (f : Fr W1 σ σ1) (h1 : ∀ j ∈ W1, j ∈ W) (h2 : ∀ j ∈ W2, j ∈ W) (h : SPost K E W B0 σ H S D F) : SPost K E W2 B0 σ1 H1 S1 D F := by
  cases F with
  | bad => exact h
  | exc ρ' x => exact fun σ' H' S' dd e r u g => h σ' H' S' dd e r (t.trans u) (f.trans g h1 h2)
  | ok q =>
    obtain ⟨ρ', c⟩ := q
    cases c with
    | nx => exact fun σ' H' S' e u g => h σ' H' S' e (t.trans u) (f.trans g h1 h2)
    | bk => exact fun σ' H' S' e u g => h σ' H' S' e (t.trans u) (f.trans g h1 h2)
    | ct => exact fun σ' H' S' e u g => h σ' H' S' e (t.trans u) (f.trans g h1 h2)
    | rt d => exact fun v σ' H' S' s e r n a u g => h v σ' H' S' s e r n a (t.trans u) (f.trans g h1 h2)
def vSeq (F G : VS) : VS := fun ρ => (F ρ).bind fun q => match q.2 with
  | .nx => G q.1
  | c => .ok (q.1, c)
theorem sv_seq {W1 W2 : List Nat} {t u : TS} {F G : VS} (h1 : SV K E W1 t F) (h2 : SV K E W2 u G) : SV K E (W1 ++ W2) (tSeq t u) (vSeq F G) := fun B0 σ H ρ S D e p => by
  refine h1 B0 σ H ρ S _ e ?_
  unfold vSeq at p
  have l1 : ∀ j ∈ W1, j ∈ W1 ++ W2 := fun j m => List.mem_append_left _ m
  have l2 : ∀ j ∈ W2, j ∈ W1 ++ W2 := fun j m => List.mem_append_right _ m
  cases hF : F ρ with
  | bad => rw [hF] at p; exact p.elim
  | exc ρ' x =>
    rw [hF] at p
    exact fun σ' H' S' dd e r u g => p σ' H' S' dd e r u (g.mono l1)
  | ok q =>
    obtain ⟨ρ1, c⟩ := q
    rw [hF] at p
    cases c with
    | nx => exact fun σ1 H1 S1 e1 t1 f1 => h2 B0 σ1 H1 ρ1 S1 D e1 (SPost.back t1 f1 l1 l2 p)
    | bk => exact fun σ' H' S' e u g => p σ' H' S' e u (g.mono l1)
    | ct => exact fun σ' H' S' e u g => p σ' H' S' e u (g.mono l1)
    | rt d => exact fun v σ' H' S' s e r n a u g => p v σ' H' S' s e r n a u (g.mono l1)
def vNext : VS := fun ρ => .ok (ρ, .nx)
theorem sv_next : SV K E [] tNext vNext := fun B0 σ H ρ S D e p => p σ H S e (Step.refl H S) Fr.refl
def vIfS (T : VT) (F G : VS) : VS := fun ρ => (T ρ).bind fun q => if q.2 then F q.1 else G q.1
theorem sv_if {W1 W2 : List Nat} {c : TT} {t u : TS} {T : VT} {F G : VS} (h0 : TV K E c T) (h1 : SV K E W1 t F) (h2 : SV K E W2 u G) : SV K E (W1 ++ W2) (tIfS c t u) (vIfS T F G) := fun B0 σ H ρ S D e p => by
  refine h0 B0 σ H ρ S _ e ?_
  unfold vIfS at p
  cases hF : T ρ with
  | bad => rw [hF] at p; exact p.elim
  | exc ρ' x =>
    rw [hF] at p
    exact fun H' S' dd e r u => p σ H' S' dd e r u Fr.refl
  | ok q =>
    obtain ⟨ρ1, b⟩ := q
    rw [hF] at p
    intro H1 S1 e1 t1
    cases b with
    | true => exact h1 B0 σ H1 ρ1 S1 D e1 (SPost.back (W1 := []) t1 Fr.refl (fun _ m => nomatch m) (fun j m => List.mem_append_left _ m) p)
    | false => exact h2 B0 σ H1 ρ1 S1 D e1 (SPost.back (W1 := []) t1 Fr.refl (fun _ m => nomatch m) (fun j m => List.mem_append_right _ m) p)
def vRet (F : VE) : VS := fun ρ => (F ρ).bind fun q => .ok (q.1, .rt q.2)
theorem sv_ret {t : TE} {F : VE} (h : EV K E t F) : SV K E [] (tRet t) (vRet F) := fun B0 σ H ρ S D e p => by
  refine h B0 σ H ρ S _ e ?_
  unfold vRet at p
  cases hF : F ρ with
  | bad => rw [hF] at p; exact p.elim
  | exc ρ' x =>
    rw [hF] at p
    exact fun H' S' dd e r u => p σ H' S' dd e r u Fr.refl
  | ok q =>
    obtain ⟨ρ1, d⟩ := q
    rw [hF] at p
    exact fun v H' S' s e r n a u => p v σ H' S' s e r n a u Fr.refl
def vExpr (F : VE) : VS := fun ρ => (F ρ).bind fun q => .ok (q.1, .nx)
theorem sv_expr {t : TE} {F : VE} (h : EV K E t F) : SV K E [] (tDrop t) (vExpr F) := fun B0 σ H ρ S D e p => by
  refine h B0 σ H ρ S _ e ?_
  unfold vExpr at p
  cases hF : F ρ with
  | bad => rw [hF] at p; exact p.elim
  | exc ρ' x =>
    rw [hF] at p
    exact fun H' S' dd e r u => p σ H' S' dd e r u Fr.refl
  | ok q =>
    obtain ⟨ρ1, d⟩ := q
    rw [hF] at p
    exact fun v H' S' s e r n a u => p σ H' S' e.less (u.sub fun _ m => nomatch m) Fr.refl
/-- a slot gets a thing -/
theorem EnvR.put {v : V} {d : D} {i : Nat} (e : EnvR K (pl B0 s) H σ ρ S) (r : R K (bl (pl B0 s) S) H v d s) (n : s.Nodup) (a : ∀ x ∈ s, ¬ B0 x) (hi : i < ρ.length) : EnvR K B0 H (σ.set i (some v)) (ρ.set i (some d)) (sset S i s) := by
  have less : ∀ x, bl B0 (sset S i s) x → bl (pl B0 s) S x := fun x q => q.elim (fun q => .inl (.inl q)) fun ⟨j, m⟩ => by
    rcases sset_mem m with ⟨_, m⟩ | ⟨_, m⟩
    · exact .inl (.inr m)
    · exact .inr ⟨j, m⟩
  have his : i < σ.length := by rw [e.ln]; exact hi
  refine ⟨fun j d' h => ?_, fun j => ?_, fun j k x h1 h2 => ?_, fun j x h => ?_, fun x h => e.tb x (.inl h), fun j x h => ?_, by rw [List.length_set, List.length_set]; exact e.ln⟩
  · by_cases hj : j = i
    · subst hj
      rw [List.getElem?_set_self hi] at h
      cases h
      refine ⟨v, List.getElem?_set_self his, ?_⟩
      rw [show sset S j s j = s from if_pos rfl]
      exact r.mono (fun _ _ q _ => q) fun x o _ n z => n (less x z)
    · rw [List.getElem?_set_ne (Ne.symm hj)] at h
      obtain ⟨v', h1, r'⟩ := e.sl j d' h
      refine ⟨v', by rw [List.getElem?_set_ne (Ne.symm hj)]; exact h1, ?_⟩
      rw [show sset S i s j = S j from if_neg hj]
      exact r'.mono (fun _ _ q _ => q) fun x o _ n z => n (less x z)
  · unfold sset
    split
    · exact n
    · exact e.nd j
  · rcases sset_mem h1 with ⟨hj, m1⟩ | ⟨hj, m1⟩ <;> rcases sset_mem h2 with ⟨hk, m2⟩ | ⟨hk, m2⟩
    · rw [hj, hk]
    · exact absurd (Or.inr m1) (e.av k x m2)
    · exact absurd (Or.inr m2) (e.av j x m1)
    · exact e.dj j k x m1 m2
  · rcases sset_mem h with ⟨_, m⟩ | ⟨_, m⟩
    · exact a x m
    · exact fun z => e.av j x m (.inl z)
  · rcases sset_mem h with ⟨_, m⟩ | ⟨_, m⟩
    · exact e.tb x (.inr m)
    · exact e.ts j x m
theorem Step.put {i : Nat} (t : Step H S H' S' s) : Step H S H' (sset S' i s) [] := ⟨t.keep, fun a h => t.own a (h.elim (fun ⟨j, m⟩ => by
  rcases sset_mem m with ⟨_, m⟩ | ⟨_, m⟩
  · exact .inr m
  · exact .inl ⟨j, m⟩) fun m => nomatch m)⟩
theorem Fr.set {i : Nat} {v : Option V} : Fr [i] σ (σ.set i v) := fun j n => List.getElem?_set_ne fun z => n (by rw [z]; simp)
def vSet (i : Nat) (F : VE) : VS := fun ρ => (F ρ).bind fun q => if i < q.1.length then .ok (q.1.set i (some q.2), .nx) else .bad
theorem sv_set {i : Nat} {t : TE} {F : VE} (h : EV K E t F) : SV K E [i] (tAsg t (gName i)) (vSet i F) := fun B0 σ H ρ S D e p => by
  refine h B0 σ H ρ S _ e ?_
  unfold vSet at p
  cases hF : F ρ with
  | bad => rw [hF] at p; exact p.elim
  | exc ρ' x =>
    rw [hF] at p
    exact fun H' S' dd e r u => p σ H' S' dd e r u Fr.refl
  | ok q =>
    obtain ⟨ρ1, d⟩ := q
    rw [hF] at p
    rw [Out.bind_ok] at p
    dsimp only at p
    by_cases hi : i < ρ1.length
    · rw [if_pos hi] at p
      exact fun v H' S' s e1 r n a u => p _ H' _ (e1.put r n a hi) u.put Fr.set
    · rw [if_neg hi] at p
      exact p.elim
/-- return of a local thing: it is handed over -/
def vRetV (i : Nat) : VS := fun ρ => match (ρ[i]?).join with
  | some d => .ok (ρ.set i none, .rt d)
  | none => .bad
theorem sv_retV {i : Nat} : SV K E [] (tRet (tVar i)) (vRetV i) := fun B0 σ H ρ S D e p => by
  unfold vRetV at p
  cases hj : (ρ[i]?).join with
  | none => rw [hj] at p; exact p.elim
  | some d =>
    rw [hj] at p
    have hi := join_some.mp hj
    obtain ⟨v, h1, r⟩ := e.sl i d hi
    refine ⟨v, h1, ?_⟩
    have same : ∀ x, bl (pl B0 (S i)) (sset S i []) x ↔ bl B0 S x := fun x => ⟨fun q => by
      rcases q with (q | q) | ⟨j, q⟩
      · exact .inl q
      · exact .inr ⟨i, q⟩
      · rcases sset_mem q with ⟨_, m⟩ | ⟨_, m⟩
        · cases m
        · exact .inr ⟨j, m⟩, fun q => by
      rcases q with q | ⟨j, q⟩
      · exact .inl (.inl q)
      · by_cases hj : j = i
        · rw [hj] at q; exact .inl (.inr q)
        · exact .inr ⟨j, by unfold sset; rw [if_neg hj]; exact q⟩⟩
    refine p v σ H (sset S i []) (S i) ⟨fun j d' h => ?_, fun j => ?_, fun j k x h1 h2 => ?_, fun j x h => ?_, fun x h => ?_, fun j x h => ?_, by rw [List.length_set]; exact e.ln⟩ (r.mono (fun _ _ q _ => q) fun x o _ n z => n ((same x).mp z)) (e.nd i) (fun x m => e.av i x m) ⟨fun _ _ e _ => e, fun a h => ?_⟩ Fr.refl
    · by_cases hj : j = i
      · subst hj
        rw [List.getElem?_set_self (List.getElem?_eq_some_iff.mp hi).1] at h
        cases h
      · rw [List.getElem?_set_ne (Ne.symm hj)] at h
        obtain ⟨v', h1, r'⟩ := e.sl j d' h
        refine ⟨v', h1, ?_⟩
        rw [show sset S i [] j = S j from if_neg hj]
        exact r'.mono (fun _ _ q _ => q) fun x o _ n z => n ((same x).mp z)
    · unfold sset
      split
      · exact List.nodup_nil
      · exact e.nd j
    · rcases sset_mem h1 with ⟨_, m⟩ | ⟨_, m1⟩
      · cases m
      · rcases sset_mem h2 with ⟨_, m⟩ | ⟨_, m2⟩
        · cases m
        · exact e.dj j k x m1 m2
    · rcases sset_mem h with ⟨_, m⟩ | ⟨hj, m⟩
      · cases m
      · exact fun z => z.elim (e.av j x m) fun z => hj (e.dj j i x m z)
    · exact h.elim (e.tb x) fun m => e.ts i x m
    · rcases sset_mem h with ⟨_, m⟩ | ⟨_, m⟩
      · cases m
      · exact e.ts j x m
    · refine .inr ?_
      rcases h with ⟨j, h⟩ | h
      · rcases sset_mem h with ⟨_, m⟩ | ⟨_, m⟩
        · cases m
        · exact ⟨j, m⟩
      · exact ⟨i, h⟩
end EV

set_option Elab.async false
set_option linter.all false
set_option maxRecDepth 100000
set_option maxHeartbeats 1000000
/-! EV8: targets, loops. -/
namespace EV
open PySem L2
variable {K : PySem.W.Frag} {B B' B0 B1 : Bs} {H H1 H2 H' : Hp} {σ σ' σ1 : St} {ρ ρ1 ρ2 ρ' : Env} {S S1 S2 S' : Nat → List Addr} {s s1 s2 : List Addr} {E : St → XK} {Q : VK}
theorem EnvR.sub (e : EnvR K B0 H σ ρ S) (h : ∀ a, B1 a → B0 a) : EnvR K B1 H σ ρ S where
  sl := fun i d q => let ⟨v, h1, r⟩ := e.sl i d q; ⟨v, h1, r.mono (fun _ _ q _ => q) fun a _ _ n z => n (z.imp (h a) id)⟩
  nd := e.nd
  dj := e.dj
  av := fun i a m q => e.av i a m (h a q)
  tb := fun a q => e.tb a (h a q)
  ts := e.ts
  ln := e.ln
theorem XR.sub {x : Exc} {dd : Option Addr} (r : XR K B H x dd) (h : ∀ a, B' a → B a) : XR K B' H x dd := by
  unfold XR at r ⊢
  cases hf : x.fs with
  | none => rw [hf] at r; exact r
  | some fs =>
    rw [hf] at r
    obtain ⟨d, fv, h1, h2, h3, h4⟩ := r
    exact ⟨d, fv, h1, h2, h3, h4.mono (fun _ _ q _ => q) fun a o _ n z => n (h a z)⟩
theorem SPost.more {W : List Nat} {F : Out (Env × Ctl)} {D : Ends} (h : SPost K E W B0 σ H S D F) : SPost K E W (pl B0 s) σ H S D F := by
  have up : ∀ {s' : List Addr} a, pl B0 s' a → pl (pl B0 s) s' a := fun a q => q.imp .inl id
  cases F with
  | bad => exact h
  | exc ρ' x => exact fun σ' H' S' dd e r u g => h σ' H' S' dd e.less (r.sub fun a q => q.imp .inl id) u g
  | ok q =>
    obtain ⟨ρ', c⟩ := q
    cases c with
    | nx => exact fun σ' H' S' e u g => h σ' H' S' e.less u g
    | bk => exact fun σ' H' S' e u g => h σ' H' S' e.less u g
    | ct => exact fun σ' H' S' e u g => h σ' H' S' e.less u g
    | rt d => exact fun v σ' H' S' s' e r n a u g => h v σ' H' S' s' (e.sub fun a q => up a q) (r.mono (fun _ _ q _ => q) fun a _ _ n z => n (z.imp (up a) id)) n (fun x m z => a x m (.inl z)) u g
/-! ### targets -/
abbrev VG := D → Env → Option Env
def GV (K : PySem.W.Frag) (W : List Nat) (g : TG) (G : VG) : Prop := ∀ B0 σ H ρ S v d ρ' (Q : St → Hp → Prop), EnvR K B0 H σ ρ S → R K (bl B0 S) H v d [] → d.fz = true → G d ρ = some ρ' →
  (∀ σ' S', EnvR K B0 H σ' ρ' S' → Step H S H S' [] → Fr W σ σ' → (∀ x, bl B0 S' x → bl B0 S x) → σ'.length = σ.length → Q σ' H) → g v σ H Q
def gvName (i : Nat) : VG := fun d ρ => if i < ρ.length then some (ρ.set i (some d)) else none
theorem gv_name {i : Nat} : GV K [i] (gName i) (gvName i) := fun B0 σ H ρ S v d ρ' Q e r _ h k => by
  unfold gvName at h
  split at h
  · rename_i hi
    cases h
    refine k _ (sset S i []) ((e.nil).put (by rw [pl_nil]; exact r) List.nodup_nil (fun _ m => nomatch m) hi) (Step.put (Step.refl H S)) Fr.set (fun x z => ?_) List.length_set
    rcases z with z | ⟨j, z⟩
    · exact .inl z
    · rcases sset_mem z with ⟨_, m⟩ | ⟨_, m⟩
      · cases m
      · exact .inr ⟨j, m⟩
  · cases h
abbrev VGs := List D → Env → Option Env
def GVs (K : PySem.W.Frag) (W : List Nat) (g : TGs) (G : VGs) : Prop := ∀ B0 σ H ρ S vs ds ρ' (Q : St → Hp → Prop), EnvR K B0 H σ ρ S → Rs K (bl B0 S) H vs ds [] → fzs ds = true → G ds ρ = some ρ' →
  (∀ σ' S', EnvR K B0 H σ' ρ' S' → Step H S H S' [] → Fr W σ σ' → (∀ x, bl B0 S' x → bl B0 S x) → σ'.length = σ.length → Q σ' H) → g vs σ H Q
def gvNil : VGs := fun ds ρ => match ds with
  | [] => some ρ
  | _ => none
def gvCons (G : VG) (Gs : VGs) : VGs := fun ds ρ => match ds with
  | d :: ds => (G d ρ).bind (Gs ds)
  | [] => none
theorem gvs_nil : GVs K [] gNil gvNil := fun B0 σ H ρ S vs ds ρ' Q e r _ h k => by
  unfold gvNil at h
  cases ds with
  | nil => cases h; cases r; exact ⟨rfl, k σ S e (Step.refl H S) Fr.refl (fun _ z => z) rfl⟩
  | cons => cases h
theorem gvs_cons {W1 W2 : List Nat} {g : TG} {gs : TGs} {G : VG} {Gs : VGs} (h1 : GV K W1 g G) (h2 : GVs K W2 gs Gs) : GVs K (W1 ++ W2) (gCons g gs) (gvCons G Gs) := fun B0 σ H ρ S vs ds ρ' Q e r f h k => by
  unfold gvCons at h
  cases vs with
  | nil => cases r; cases h
  | cons v vs =>
    obtain ⟨d, ds', rfl, r1, r2⟩ := r.cons_inv
    rw [fzs, Bool.and_eq_true] at f
    dsimp only at h
    cases hG : G d ρ with
    | none => rw [hG] at h; cases h
    | some ρ1 =>
      rw [hG] at h
      refine ⟨v, vs, rfl, h1 B0 σ H ρ S v d ρ1 _ e r1 f.1 hG fun σ1 S1 e1 t1 f1 l1 m1 => ?_⟩
      refine h2 B0 σ1 H ρ1 S1 vs ds' ρ' Q e1 (r2.mono (fun _ _ q _ => q) fun a _ _ n z => n (l1 a z)) f.2 h fun σ2 S2 e2 t2 f2 l2 m2 => ?_
      exact k σ2 S2 e2 (t1.trans t2) (f1.trans f2 (fun j m => List.mem_append_left _ m) fun j m => List.mem_append_right _ m) (fun x z => l1 x (l2 x z)) (m2.trans m1)
def gvTup (n : Nat) (Gs : VGs) : VG := fun d ρ => match d with
  | .tup _ xs => if xs.length = n then Gs xs ρ else none
  | _ => none
theorem gv_tup {n : Nat} {W : List Nat} {gs : TGs} {Gs : VGs} (h : GVs K W gs Gs) : GV K W (gTup K n gs) (gvTup n Gs) := fun B0 σ H ρ S v d ρ' Q e r f hG k => by
  unfold gvTup at hG
  split at hG
  · rename_i o xs
    split at hG
    · rename_i hl
      obtain ⟨p, vs, rfl, hp, t⟩ := r.tup'
      rw [D.fz] at f
      exact ⟨p, vs, rfl, hp.sq, by rw [t.len]; exact hl, h B0 σ H ρ S vs xs ρ' Q e t f hG k⟩
    · cases hG
  · cases hG
/-- target = value, the value frozen -/
def vAsg (G : VG) (F : VE) : VS := fun ρ => (F ρ).bind fun q => match G q.2.ice q.1 with
  | some ρ' => .ok (ρ', .nx)
  | none => .bad
theorem sv_asg {W : List Nat} {t : TE} {F : VE} {g : TG} {G : VG} (h : EV K E t F) (hg : GV K W g G) : SV K E W (tAsg t g) (vAsg G F) := fun B0 σ H ρ S D e p => by
  refine ev_ice h B0 σ H ρ S _ e ?_
  unfold vAsg at p
  unfold vIce
  cases hF : F ρ with
  | bad => rw [hF] at p; exact p.elim
  | exc ρ' x =>
    rw [hF] at p
    exact fun H' S' dd e r u => p σ H' S' dd e r u Fr.refl
  | ok q =>
    obtain ⟨ρ1, d⟩ := q
    rw [hF] at p
    rw [Out.bind_ok] at p ⊢
    dsimp only at p
    intro v H1 S1 s1 e1 r n a u
    have z := r.nil d.ice_fz
    subst z
    cases hG : G d.ice ρ1 with
    | none => rw [hG] at p; exact p.elim
    | some ρ2 =>
      rw [hG] at p
      rw [pl_nil] at e1 r
      exact hg B0 σ H1 ρ1 S1 v d.ice ρ2 _ e1 r d.ice_fz hG fun σ2 S2 e2 t2 f2 _ _ => p σ2 H1 S2 e2 (u.trans t2) f2
/-! ### loops -/
def vLoop (chk : Env → Bool) (step : D → VS) : List D → VS
  | [], ρ => .ok (ρ, .nx)
  | d :: ds, ρ => (step d ρ).bind fun q => match q.2 with
    | .nx => if chk q.1 then vLoop chk step ds q.1 else .bad
    | .ct => if chk q.1 then vLoop chk step ds q.1 else .bad
    | .bk => .ok (q.1, .nx)
    | .rt r => .ok (q.1, .rt r)
def vTurn (G : VG) (F : VS) : D → VS := fun d ρ => match G d ρ with
  | some ρ1 => F ρ1
  | none => .bad
/-- a step that may also have changed what is in X -/
structure StepX (X : Bs) (H : Hp) (S : Nat → List Addr) (H' : Hp) (S' : Nat → List Addr) : Prop where
  keep : ∀ a o, H a = some o → (∀ i, a ∉ S i) → ¬ X a → H' a = some o
  own : ∀ a i, a ∈ S' i → H a = none ∨ ∃ i, a ∈ S i
theorem Step.x {X : Bs} (t : Step H S H' S' s) : StepX X H S H' S' := ⟨fun a o e n _ => t.keep a o e n, fun a i m => t.own a (.inl ⟨i, m⟩)⟩
def wipeE (ρ : Env) : List Nat → Env
  | [] => ρ
  | v :: vs => (wipeE ρ vs).set v none
/-- the block's own slots are as they were ahead of it -/
def restE (ρ0 ρ : Env) : List Nat → Env
  | [] => ρ
  | v :: vs => (restE ρ0 ρ vs).set v ((ρ0[v]?).join)
def wipeS (S : Nat → List Addr) (vs : List Nat) : Nat → List Addr := fun j => if j ∈ vs then [] else S j
theorem wipeS_mem {vs : List Nat} {j : Nat} {a : Addr} (h : a ∈ wipeS S vs j) : j ∉ vs ∧ a ∈ S j := by
  unfold wipeS at h
  split at h
  · cases h
  · exact ⟨by assumption, h⟩
theorem wipeE_len : ∀ {vs : List Nat}, (wipeE ρ vs).length = ρ.length
  | [] => rfl
  | v :: vs => by rw [wipeE, List.length_set, wipeE_len]
theorem restE_len {ρ0 : Env} : ∀ {vs : List Nat}, (restE ρ0 ρ vs).length = ρ.length
  | [] => rfl
  | v :: vs => by rw [restE, List.length_set, restE_len]
theorem wipeE_some {j : Nat} {d : D} : ∀ {vs : List Nat}, (wipeE ρ vs)[j]? = some (some d) → j ∉ vs ∧ ρ[j]? = some (some d)
  | [], h => ⟨by simp, h⟩
  | v :: vs, h => by
    rw [wipeE] at h
    by_cases hj : j = v
    · subst hj
      by_cases hl : j < (wipeE ρ vs).length
      · rw [List.getElem?_set_self hl] at h; cases h
      · rw [List.getElem?_eq_none (by rw [List.length_set]; omega)] at h; cases h
    · rw [List.getElem?_set_ne (Ne.symm hj)] at h
      obtain ⟨h1, h2⟩ := wipeE_some h
      exact ⟨by simp [hj, h1], h2⟩
theorem wipe_get (a : St) (j : Nat) : ∀ (vs : List Nat), (wipe a vs)[j]? = if j ∈ vs then (if j < a.length then some none else none) else a[j]?
  | [] => by simp [wipe]
  | v :: vs => by
    rw [wipe]
    by_cases hj : j = v
    · subst hj
      by_cases hl : j < a.length
      · rw [List.getElem?_set_self (by rw [wipe_length]; exact hl)]; simp [hl]
      · rw [List.getElem?_eq_none (by rw [List.length_set, wipe_length]; omega)]; simp [hl]
    · rw [List.getElem?_set_ne (Ne.symm hj), wipe_get a j vs]
      simp [hj]
theorem wipe_eq {vs : List Nat} (hl : σ1.length = σ.length) (f : Fr vs (wipe σ vs) σ1) : wipe σ1 vs = wipe σ vs := by
  apply List.ext_getElem?
  intro j
  rw [wipe_get, wipe_get]
  by_cases hj : j ∈ vs
  · rw [if_pos hj, if_pos hj, hl]
  · rw [if_neg hj, if_neg hj, f j hj, wipe_get, if_neg hj]
theorem EnvR.wipe (e : EnvR K B0 H σ ρ S) (vs : List Nat) : EnvR K B0 H (wipe σ vs) (wipeE ρ vs) (wipeS S vs) where
  sl := fun j d h => by
    obtain ⟨h1, h2⟩ := wipeE_some h
    obtain ⟨v, h3, r⟩ := e.sl j d h2
    refine ⟨v, by rw [wipe_get, if_neg h1]; exact h3, ?_⟩
    rw [show wipeS S vs j = S j from if_neg h1]
    exact r.mono (fun _ _ q _ => q) fun a _ _ n z => n (z.imp id fun ⟨i, m⟩ => ⟨i, (wipeS_mem m).2⟩)
  nd := fun j => by unfold wipeS; split; exact List.nodup_nil; exact e.nd j
  dj := fun i j a h1 h2 => e.dj i j a (wipeS_mem h1).2 (wipeS_mem h2).2
  av := fun j a h => e.av j a (wipeS_mem h).2
  tb := e.tb
  ts := fun j a h => e.ts j a (wipeS_mem h).2
  ln := by rw [wipe_length, wipeE_len]; exact e.ln
theorem wipeE_get {j : Nat} {vs : List Nat} (h : j ∉ vs) : (wipeE ρ vs)[j]? = ρ[j]? := by
  induction vs with
  | nil => rfl
  | cons v vs ih =>
    rw [wipeE, List.getElem?_set_ne (fun z => h (by rw [z]; simp))]
    exact ih fun m => h (List.mem_cons_of_mem _ m)
open Classical in
/-- whether the slot still has that -/
noncomputable def chkS (i : Nat) (d : D) : Env → Bool := fun ρ => decide (ρ[i]? = some (some d))
/-- what is walked, and what it depends on: a slot's thing -/
abbrev Dep := Option (Nat × D)
noncomputable def chkO : Dep → Env → Bool
  | none => fun _ => true
  | some (i, d) => chkS i d
structure Fit (s : List Addr) (dep : Dep) (B : Bs) (W : List Nat) (X : Bs) : Prop where
  sB : ∀ x ∈ s, B x
  sX : ∀ x ∈ s, ¬ X x
  XB : ∀ x, X x → B x
  dp : ∀ i d, dep = some (i, d) → i ∉ W
/-- the turns, where the heap stands so -/
def JF (K : PySem.W.Frag) (J : It) (xs : List D) (B : Bs) (H : Hp) : Prop := J.stop xs.length H ∧ (∀ i, i < xs.length → J.go i H) ∧ ∀ i x H' d, xs[i]? = some d → J.yld i H x H' → Same H H' ∧ R K B H' x d []
abbrev CtT := Bs → St → Env → Hp → (Nat → List Addr) → Prop
structure Src (K : PySem.W.Frag) (s : List Addr) (dep : Dep) (J : It) (xs : List D) (Ct : CtT) : Prop where
  fz : fzs xs = true
  at_ : ∀ B σ ρ H S, EnvR K B H σ ρ S → Ct B σ ρ H S → JF K J xs (bl B S) H
  keep : ∀ B W X σ ρ H S σ' ρ' H' S', Fit s dep B W X → Ct B σ ρ H S → EnvR K B H σ ρ S → EnvR K B H' σ' ρ' S' → StepX X H S H' S' → Fr W σ σ' → chkO dep ρ' = true → Ct B σ' ρ' H' S'
  wipe : ∀ B A o vs σ ρ H S, H A = none → (∀ i d, dep = some (i, d) → i ∉ vs) → EnvR K B H σ ρ S → Ct B σ ρ H S → Ct (pl B [A]) (wipe σ vs) (wipeE ρ vs) (L2.upd H A o) (wipeS S vs)
theorem src_none {J : It} {xs : List D} (hf : fzs xs = true) (h : ∀ B σ ρ H S, EnvR K B H σ ρ S → JF K J xs (bl B S) H) : Src K [] none J xs (fun _ _ _ _ _ => True) where
  fz := hf
  at_ := fun B σ ρ H S e _ => h B σ ρ H S e
  keep := fun _ _ _ _ _ _ _ _ _ _ _ _ _ _ _ _ _ _ => trivial
  wipe := fun _ _ _ _ _ _ _ _ _ _ _ _ => trivial
theorem keepV {v : V} {d : D} {X : Bs} (hs : ∀ x ∈ s, B0 x) (hX : ∀ x ∈ s, ¬ X x) (hXB : ∀ x, X x → B0 x) (e : EnvR K B0 H σ ρ S) (t : StepX X H S H' S') (r : R K (bl B0 S) H v d s) : R K (bl B0 S') H' v d s :=
  r.mono (fun x o q n => t.keep x o q (fun i m => n.elim (fun n => n (.inr ⟨i, m⟩)) fun n => e.av i x m (hs x n)) fun z => n.elim (fun n => n (.inl (hXB x z))) fun n => hX x n z) fun x o q n z => z.elim (fun z => n (.inl z)) fun ⟨i, z⟩ => (t.own x i z).elim (fun w => by rw [q] at w; cases w) fun ⟨j, w⟩ => n (.inr ⟨j, w⟩)
theorem wipeV {v : V} {d : D} {A : Addr} {o : HO} {vs : List Nat} (nA : H A = none) (r : R K (bl B0 S) H v d s) : R K (bl (pl B0 [A]) (wipeS S vs)) (L2.upd H A o) v d s := by
  refine r.mono (fun b o q _ => sameN nA b o q) fun b o q n' z => ?_
  rcases z with (z | z) | ⟨j, z⟩
  · exact n' (.inl z)
  · have : b = A := by simpa using z
    rw [this, nA] at q; cases q
  · exact n' (.inr ⟨j, (wipeS_mem z).2⟩)
/-- a datum at hand -/
theorem src_val {J : It} {xs : List D} {v : V} {d : D} (hf : fzs xs = true) (h : ∀ B σ ρ H S, EnvR K B H σ ρ S → R K (bl B S) H v d s → JF K J xs (bl B S) H) : Src K s none J xs (fun B σ ρ H S => R K (bl B S) H v d s) where
  fz := hf
  at_ := fun B σ ρ H S e r => h B σ ρ H S e r
  keep := fun B W X σ ρ H S σ' ρ' H' S' F r e e' t f _ => keepV F.sB F.sX F.XB e t r
  wipe := fun B A o vs σ ρ H S nA _ e r => wipeV nA r
theorem src_val2 {J : It} {xs : List D} {v v2 : V} {d d2 : D} (hf : fzs xs = true) (h : ∀ B σ ρ H S, EnvR K B H σ ρ S → R K (bl B S) H v d [] → R K (bl B S) H v2 d2 [] → JF K J xs (bl B S) H) : Src K [] none J xs (fun B σ ρ H S => R K (bl B S) H v d [] ∧ R K (bl B S) H v2 d2 []) where
  fz := hf
  at_ := fun B σ ρ H S e r => h B σ ρ H S e r.1 r.2
  keep := fun B W X σ ρ H S σ' ρ' H' S' F r e e' t f _ => ⟨keepV F.sB F.sX F.XB e t r.1, keepV F.sB F.sX F.XB e t r.2⟩
  wipe := fun B A o vs σ ρ H S nA _ e r => ⟨wipeV nA r.1, wipeV nA r.2⟩
/-- what a slot has -/
theorem src_slot {J : It} {xs : List D} {v : V} {d : D} {i : Nat} (hf : fzs xs = true) (h : ∀ B σ ρ H S s, EnvR K B H σ ρ S → R K (bl B S) H v d s → JF K J xs (bl B S) H) : Src K [] (some (i, d)) J xs (fun B σ ρ H S => σ[i]? = some (some v) ∧ ρ[i]? = some (some d)) where
  fz := hf
  at_ := fun B σ ρ H S e r => by
    obtain ⟨v', h1, r'⟩ := e.sl i d r.2
    rw [r.1] at h1
    cases h1
    exact h B σ ρ H S _ e r'
  keep := fun B W X σ ρ H S σ' ρ' H' S' F r e e' t f hc => ⟨by rw [f i (F.dp i d rfl)]; exact r.1, by unfold chkO chkS at hc; simpa using hc⟩
  wipe := fun B A o vs σ ρ H S nA hd e r => ⟨by rw [wipe_get, if_neg (hd i d rfl)]; exact r.1, by rw [wipeE_get (hd i d rfl)]; exact r.2⟩
/-! ### what is walked, as a judgement -/
abbrev VI := Env → Out (Env × List D × Dep)
def IPost (K : PySem.W.Frag) (E : St → XK) (B0 : Bs) (σ : St) (H : Hp) (S : Nat → List Addr) (Q : It → Hp → Prop) : Out (Env × List D × Dep) → Prop
  | .ok (ρ', xs, dep) => ∀ J H' S' s Ct, EnvR K (pl B0 s) H' σ ρ' S' → (∀ a ∈ s, ¬ B0 a) → Step H S H' S' s → Src K s dep J xs Ct → Ct (pl B0 s) σ ρ' H' S' → Q J H'
  | .exc ρ' x => XP K E B0 σ H S ρ' x
  | .bad => False
def IV (K : PySem.W.Frag) (E : St → XK) (t : TI) (F : VI) : Prop := ∀ B0 σ H ρ S Q, EnvR K B0 H σ ρ S → IPost K E B0 σ H S Q (F ρ) → t σ H Q
theorem for_ev {W W1 W2 : List Nat} {dep : Dep} {J : It} {xs : List D} {Ct : CtT} {g : TG} {G : VG} {tb : TS} {F : VS} {D : Ends} {X : Bs} (w : Src K s dep J xs Ct) (ft : Fit s dep B0 W X) (hg : GV K W1 g G) (hb : SV K E W2 tb F) (hW1 : ∀ j ∈ W1, j ∈ W) (hW2 : ∀ j ∈ W2, j ∈ W)
    (e : EnvR K B0 H σ ρ S) (c : Ct B0 σ ρ H S) (p : SPost K E W B0 σ H S D (vLoop (chkO dep) (vTurn G F) xs ρ)) :
    ∃ Wi : Nat → Nat → St → Hp → Prop, (∃ m, Wi 0 m σ H) ∧ ∀ i m σ H, Wi i m σ H →
      (J.stop i H ∧ D.nx σ H) ∨ (J.go i H ∧ ∃ N : St → Hp → Prop, (∀ σ' H', N σ' H' → ∃ m', m' < m ∧ Wi (i + 1) m' σ' H') ∧ ∀ x H', J.yld i H x H' → g x σ H' fun σ2 H2 => tb { D with nx := N, ct := N, bk := D.nx } σ2 H2) := by
  refine ⟨fun i m σ H => i ≤ xs.length ∧ m = xs.length - i ∧ ∃ ρ S, EnvR K B0 H σ ρ S ∧ Ct B0 σ ρ H S ∧ SPost K E W B0 σ H S D (vLoop (chkO dep) (vTurn G F) (xs.drop i) ρ), ⟨xs.length, Nat.zero_le _, rfl, ρ, S, e, c, p⟩, ?_⟩
  rintro i m σ H ⟨hi, rfl, ρ, S, e, c, p⟩
  obtain ⟨st, go, yl⟩ := w.at_ B0 σ ρ H S e c
  by_cases hlt : i < xs.length
  · refine .inr ⟨go i hlt, fun σ' H' => i + 1 ≤ xs.length ∧ ∃ ρ S, EnvR K B0 H' σ' ρ S ∧ Ct B0 σ' ρ H' S ∧ SPost K E W B0 σ' H' S D (vLoop (chkO dep) (vTurn G F) (xs.drop (i + 1)) ρ), fun σ' H' ⟨h1, h2⟩ => ⟨xs.length - (i + 1), by omega, h1, rfl, h2⟩, fun x H0 y => ?_⟩
    obtain ⟨m0, rv⟩ := yl i x H0 xs[i] (List.getElem?_eq_getElem hlt) y
    have e0 : EnvR K B0 H0 σ ρ S := (e.grow (s := []) m0 (fun _ m => nomatch m) fun _ m => nomatch m).less
    have t0 : Step H S H0 S [] := Step.grow m0 fun _ m => nomatch m
    have hd : xs.drop i = xs[i] :: xs.drop (i + 1) := List.drop_eq_getElem_cons hlt
    rw [hd] at p
    have fd : (xs[i]).fz = true := fzs_all.mp w.fz _ (List.getElem_mem hlt)
    unfold vLoop at p
    unfold vTurn at p
    cases hG : G xs[i] ρ with
    | none => rw [hG] at p; exact p.elim
    | some ρ1 =>
      rw [hG] at p
      dsimp only at p
      refine hg B0 σ H0 ρ S x xs[i] ρ1 _ e0 rv fd hG fun σ1 S1 e1 t1' f1 _ _ => ?_
      refine hb B0 σ1 H0 ρ1 S1 _ e1 ?_
      have t1 : Step H S H0 S1 [] := t0.trans t1'
      have nextOk : ∀ {σ' : St} {H' : Hp} {S' : Nat → List Addr} {ρ' : Env}, EnvR K B0 H' σ' ρ' S' → Step H0 S1 H' S' [] → Fr W2 σ1 σ' → SPost K E W B0 σ H S D (if chkO dep ρ' then vLoop (chkO dep) (vTurn G F) (xs.drop (i + 1)) ρ' else .bad) →
          i + 1 ≤ xs.length ∧ ∃ ρ S, EnvR K B0 H' σ' ρ S ∧ Ct B0 σ' ρ H' S ∧ SPost K E W B0 σ' H' S D (vLoop (chkO dep) (vTurn G F) (xs.drop (i + 1)) ρ) := fun {σ' H' S' ρ'} e' t' f' q => by
        by_cases hc : chkO dep ρ' = true
        · rw [if_pos hc] at q
          have ff : Fr W σ σ' := f1.trans f' hW1 hW2
          exact ⟨hlt, ρ', S', e', w.keep B0 W X σ ρ H S σ' ρ' H' S' ft c e e' (t1.trans t').x ff hc, SPost.back (W1 := W) (t1.trans t') ff (fun _ z => z) (fun _ z => z) q⟩
        · rw [if_neg hc] at q
          exact q.elim
      change SPost K E W B0 σ H S D ((F ρ1).bind _) at p
      cases hF : F ρ1 with
      | bad => rw [hF] at p; exact p.elim
      | exc ρ' x =>
        rw [hF] at p
        exact fun σ' H' S' dd e' r' t' f' => p σ' H' S' dd e' r' (t1.trans t') (f1.trans f' hW1 hW2)
      | ok q =>
        obtain ⟨ρ', cc⟩ := q
        rw [hF] at p
        rw [Out.bind_ok] at p
        cases cc with
        | nx => exact fun σ' H' S' e' t' f' => nextOk e' t' f' p
        | ct => exact fun σ' H' S' e' t' f' => nextOk e' t' f' p
        | bk => exact fun σ' H' S' e' t' f' => p σ' H' S' e' (t1.trans t') (f1.trans f' hW1 hW2)
        | rt d => exact fun v σ' H' S' s' e' r' n a t' f' => p v σ' H' S' s' e' r' n a (t1.trans t') (f1.trans f' hW1 hW2)
  · have hi' : i = xs.length := by omega
    subst hi'
    refine .inl ⟨st, ?_⟩
    rw [List.drop_length] at p
    exact p σ H S e (Step.refl H S) Fr.refl
end EV

set_option Elab.async false
set_option linter.all false
set_option maxRecDepth 100000
set_option maxHeartbeats 1000000
/-! EV9: what is walked; for. -/
namespace L2
open PySem PySem.Spec PyProof.Rows
/-- a list, a tuple or a text walked -/
def iSeq (K : PySem.W.Frag) (tl : TE) : TI := fun σ H R => tl σ H fun x H1 => (∃ a xs, x = .ref a ∧ SqL K H1 a xs ∧ R (Itl K a) H1) ∨ (∃ a xs, x = .ref a ∧ SqT K H1 a xs ∧ R (Itt K a) H1) ∨ ∃ z, x = .str z ∧ R (Its z) H1
theorem pi_seq {X : Cx} {tg l : Expr} {tl : TE} (hl : PE X l tl) : PI X tg l (iSeq X.K tl) := by
  refine ⟨fun pins s σ H R I h => ?_⟩
  refine thn (hl.run pins s σ H _ I h) fun v s1 ⟨x, H1, I1, r1, q1⟩ => ?_
  rcases q1 with ⟨a, xs, e, hq, q⟩ | ⟨a, xs, e, hq, q⟩ | ⟨x, e, q⟩
  · subst e
    cases r1
    obtain ⟨its, rv, p, hz⟩ := I1.list hq
    refine wpAny_pyIter_list p.isList ?_
    refine ⟨s1.heap.objs.size, [s1.heap.objs.size], _, _, H1, rfl, I1.kept (t' := s1.toks) fun b o e => Heap.get?_push_of_some _ e, turn_list a _, ⟨_, Heap.get?_push_size _ rfl, rfl, rfl⟩, fun b hb => ?_, q⟩
    have e : b = s1.heap.objs.size := by simpa using hb
    subst e
    exact I1.fpOk (Nat.le_refl _) (I1.hok.fresh (Nat.le_refl _))
  · subst e
    cases r1
    obtain ⟨its, rv, p, hz⟩ := I1.tuple hq
    refine wpAny_pyIter_tuple (show s1.heap.IsTuple a its.toArray from p) ?_
    refine ⟨s1.heap.objs.size, [s1.heap.objs.size], _, _, H1, rfl, I1.kept (t' := s1.toks) fun b o e => Heap.get?_push_of_some _ e, turn_tuple a _, ⟨_, Heap.get?_push_size _ rfl, rfl, rfl⟩, fun b hb => ?_, q⟩
    have e : b = s1.heap.objs.size := by simpa using hb
    subst e
    exact I1.fpOk (Nat.le_refl _) (I1.hok.fresh (Nat.le_refl _))
  · subst e
    obtain ⟨t, rfl⟩ := r1
    cases ha : x.cps.all (· < 128)
    · exact wpAny_pyIter_wide ha (pi_one (tk := s1.toks) I1 _ (turn_str _ x t "str_iterator" (.inr rfl)) ⟨_, Heap.get?_push_size _ rfl, rfl, rfl⟩ q)
    · exact wpAny_pyIter_ascii ha (pi_one (tk := s1.toks) I1 _ (turn_str _ x t "str_ascii_iterator" (.inl rfl)) ⟨_, Heap.get?_push_size _ rfl, rfl, rfl⟩ q)
end L2
namespace EV
open PySem L2
variable {K : PySem.W.Frag} {B B' B0 B1 : Bs} {H H1 H2 H' : Hp} {σ σ' σ1 : St} {ρ ρ1 ρ2 ρ' : Env} {S S1 S2 S' : Nat → List Addr} {s s1 s2 : List Addr} {E : St → XK} {Q : VK}
def chars (z : Str) : List D := z.cps.toList.map fun c => D.str ⟨#[c]⟩
/-- what is walked -/
def D.items? : D → Option (List D)
  | .str z => some (chars z)
  | d => d.seq?
def adr : V → Addr
  | .ref a => a
  | _ => 0
def itOf (K : PySem.W.Frag) (v : V) : D → It
  | .tup _ _ => Itt K (adr v)
  | .str z => Its z
  | _ => Itl K (adr v)
theorem chars_fz {z : Str} : fzs (chars z) = true := by
  rw [fzs_all]
  intro d hd
  obtain ⟨c, _, rfl⟩ := List.mem_map.mp hd
  rfl
theorem jf_same {J : It} {xs : List D} {vs : List V} (t : Rs K B H vs xs []) (h1 : J.stop vs.length H) (h2 : ∀ i, i < vs.length → J.go i H) (h3 : ∀ i x H', i < vs.length → J.yld i H x H' → H' = H ∧ vs[i]? = some x) : JF K J xs B H := by
  rw [t.len] at h1 h2 h3
  refine ⟨h1, h2, fun i x H' d hd y => ?_⟩
  obtain ⟨e, hx⟩ := h3 i x H' (List.getElem?_eq_some_iff.mp hd).1 y
  subst e
  obtain ⟨v, hv, r⟩ := t.get hd
  rw [hx] at hv
  cases hv
  exact ⟨fun _ _ e => e, r⟩
theorem jf_l {a : Addr} {xs : List D} {vs : List V} (h : SqL K H a vs) (t : Rs K B H vs xs []) : JF K (Itl K a) xs B H :=
  jf_same t ⟨vs, h, Nat.le_refl _⟩ (fun i hi => ⟨vs, vs[i], h, List.getElem?_eq_getElem hi⟩) fun i x H' _ y => ⟨y.1, y.2 vs h⟩
theorem jf_t {a : Addr} {xs : List D} {vs : List V} (h : SqT K H a vs) (t : Rs K B H vs xs []) : JF K (Itt K a) xs B H :=
  jf_same t ⟨vs, h, Nat.le_refl _⟩ (fun i hi => ⟨vs, vs[i], h, List.getElem?_eq_getElem hi⟩) fun i x H' _ y => ⟨y.1, y.2 vs h⟩
theorem jf_s {z : Str} : JF K (Its z) (chars z) B H := by
  have e : (chars z).length = z.cps.size := by unfold chars; rw [List.length_map, Array.length_toList]
  refine ⟨by rw [e]; exact Nat.le_refl _, fun i hi => by rw [e] at hi; exact hi, fun i x H' d hd y => ?_⟩
  obtain ⟨rfl, c, hc, rfl⟩ := y
  unfold chars at hd
  rw [List.getElem?_map, Array.getElem?_toList, hc] at hd
  cases hd
  exact ⟨fun _ _ e => e, .str⟩
/-- a datum that can be walked -/
theorem R.jf {v : V} {d : D} {xs : List D} (r : R K B H v d s) (h : d.items? = some xs) (hf : fzs xs = true) : JF K (itOf K v d) xs B H := by
  cases r <;> simp only [D.items?, D.seq?, Option.some.injEq] at h <;> first | (cases h; done) | subst h
  · exact jf_s
  · exact jf_t (TuB.sq ‹_›) ‹_›
  · exact jf_t (.inl (.inl ‹_›)) ‹_›
  · exact jf_l (LiB.sq ‹_›) rs_ints
  · exact jf_l (SqL.of ‹_›) ‹_›
  · exact jf_l (SqL.of ‹_›) (Rs.fr ‹_› hf)
theorem R.jo {v : V} {d : D} {xs : List D} {P : It → Hp → Prop} (r : R K B H v d s) (h : d.items? = some xs) (p : P (itOf K v d) H) : (∃ a xs, v = .ref a ∧ SqL K H a xs ∧ P (Itl K a) H) ∨ (∃ a xs, v = .ref a ∧ SqT K H a xs ∧ P (Itt K a) H) ∨ ∃ z, v = .str z ∧ P (Its z) H := by
  cases r <;> simp only [D.items?, D.seq?, Option.some.injEq] at h <;> first | (cases h; done) | subst h
  · exact .inr (.inr ⟨_, rfl, p⟩)
  · exact .inr (.inl ⟨_, _, rfl, TuB.sq ‹_›, p⟩)
  · exact .inr (.inl ⟨_, _, rfl, .inl (.inl ‹_›), p⟩)
  · exact .inl ⟨_, _, rfl, LiB.sq ‹_›, p⟩
  · exact .inl ⟨_, _, rfl, SqL.of ‹_›, p⟩
  · exact .inl ⟨_, _, rfl, SqL.of ‹_›, p⟩
/-- the items of an operand -/
def itemsA (q : Env × Arg) : Out (Env × List D × Dep) := match q.2 with
  | .val d => match d.items? with
    | some xs => if fzs xs then .ok (q.1, xs, none) else .bad
    | none => .bad
  | .slot i => match (q.1[i]?).join with
    | some d => match d.items? with
      | some xs => if fzs xs then .ok (q.1, xs, if d.fz then none else some (i, d)) else .bad
      | none => .bad
    | none => .bad
def vItems (A : VA) : VI := fun ρ => (A ρ).bind itemsA
theorem iv_seq {tl : TE} {A : VA} (ha : AR K E tl A) : IV K E (iSeq K tl) (vItems A) := fun B0 σ H ρ S Q e p => by
  refine ha B0 σ H ρ S _ e ?_
  unfold vItems at p
  cases hA : A ρ with
  | bad => rw [hA] at p; exact p.elim
  | exc ρ' x => rw [hA] at p; exact p
  | ok q =>
    obtain ⟨ρ1, a⟩ := q
    rw [hA] at p
    rw [Out.bind_ok] at p
    unfold itemsA at p
    cases a with
    | val d =>
      intro v H1 S1 s1 e1 r n a t
      dsimp only at p
      cases hd : d.items? with
      | none => rw [hd] at p; exact p.elim
      | some xs =>
        rw [hd] at p
        dsimp only at p
        by_cases hf : fzs xs = true
        · rw [if_pos hf] at p
          exact r.jo (P := Q) hd (p (itOf K v d) H1 S1 s1 _ e1 a t (src_val (v := v) (d := d) hf fun B σ ρ H S e r => r.jf hd hf) r)
        · rw [if_neg hf] at p
          exact p.elim
    | slot i =>
      intro v H1 S1 hv e1 t
      dsimp only at p
      cases hj : (ρ1[i]?).join with
      | none => rw [hj] at p; exact p.elim
      | some d =>
        rw [hj] at p
        dsimp only at p
        have hi := join_some.mp hj
        obtain ⟨v', h1, r⟩ := e1.sl i d hi
        rw [hv] at h1
        cases h1
        cases hd : d.items? with
        | none => rw [hd] at p; exact p.elim
        | some xs =>
          rw [hd] at p
          dsimp only at p
          by_cases hf : fzs xs = true
          · rw [if_pos hf] at p
            refine r.jo (P := Q) hd ?_
            by_cases hz : d.fz = true
            · rw [if_pos hz] at p
              have z := r.nil hz
              rw [z] at r
              exact p (itOf K v d) H1 S1 [] _ e1.nil (fun _ m => nomatch m) t (src_val (v := v) (d := d) hf fun B σ ρ H S e r => r.jf hd hf) (by rw [pl_nil]; exact r)
            · rw [if_neg hz] at p
              exact p (itOf K v d) H1 S1 [] _ e1.nil (fun _ m => nomatch m) t (src_slot (i := i) (v := v) (d := d) hf fun B σ ρ H S s e r => r.jf hd hf) ⟨hv, hi⟩
          · rw [if_neg hf] at p
            exact p.elim
/-! ### range -/
def rangeD (lo : Int) (n : Nat) : List D := (List.range n).map fun (i : Nat) => D.int (lo + i)
theorem rangeD_fz {lo : Int} {n : Nat} : fzs (rangeD lo n) = true := by
  rw [fzs_all]; intro d hd; obtain ⟨i, _, rfl⟩ := List.mem_map.mp hd; rfl
theorem jf_r {lo : Int} {n : Nat} : JF K (Itr lo n) (rangeD lo n) B H := by
  have e : (rangeD lo n).length = n := by unfold rangeD; rw [List.length_map, List.length_range]
  refine ⟨by rw [e]; exact Nat.le_refl _, fun i hi => by rw [e] at hi; exact hi, fun i x H' d hd y => ?_⟩
  obtain ⟨h1, rfl⟩ := y
  subst h1
  have hi := (List.getElem?_eq_some_iff.mp hd).1
  rw [e] at hi
  unfold rangeD at hd
  rw [List.getElem?_map, List.getElem?_range hi] at hd
  cases hd
  exact ⟨fun _ _ e => e, .int⟩
theorem Rp.one_int {vs : List V} {j : Int} (h : Rp K B H vs [.int j]) : vs = [.int j] := by
  match h with
  | .cons .int .nil => rfl
theorem Rp.two_int {vs : List V} {i j : Int} (h : Rp K B H vs [.int i, .int j]) : vs = [.int i, .int j] := by
  match h with
  | .cons .int (.cons .int .nil) => rfl
def smallI (i : Int) : Bool := decide (-(2 ^ 62) ≤ i) && decide (i < 2 ^ 62)
theorem smallI_iff {i : Int} (h : smallI i = true) : -(2 ^ 62) ≤ i ∧ i < 2 ^ 62 := by
  unfold smallI at h
  rw [Bool.and_eq_true, decide_eq_true_eq, decide_eq_true_eq] at h
  exact h
theorem Src.more {dep : Dep} {J : It} {xs : List D} {Ct : CtT} (h : Src K [] dep J xs Ct) : Src K s dep J xs Ct where
  fz := h.fz
  at_ := h.at_
  keep := fun B W X σ ρ H S σ' ρ' H' S' F => h.keep B W X σ ρ H S σ' ρ' H' S' ⟨fun _ m => (nomatch m), fun _ m => (nomatch m), F.XB, F.dp⟩
  wipe := h.wipe
/-- what is walked, by the operands -/
def vOpI (f : List D → Option (List D)) (A : VL) : VI := fun ρ => (A ρ).bind fun q => match (resAll q.1 q.2).bind f with
  | some xs => .ok (q.1, xs, none)
  | none => .bad
theorem iv_op {ta : TA} {A : VL} {wi : TI} {r : List V → Hp → (It → Hp → Prop) → Prop} {f : List D → Option (List D)} (ha : AL K E ta A) (hw : ∀ σ H R, ta σ H (fun vs H1 => r vs H1 R) → wi σ H R)
    (ho : ∀ B H vs ds xs R, Rp K B H vs ds → f ds = some xs → fzs xs = true ∧ ∃ J Ct, Src K [] none J xs Ct ∧ (∀ B0 S σ ρ, B = bl B0 S → Ct B0 σ ρ H S) ∧ (R J H → r vs H R)) : IV K E wi (vOpI f A) := fun B0 σ H ρ S Q e p => by
  refine hw σ H Q (ha B0 σ H ρ S _ e ?_)
  unfold vOpI at p
  cases hA : A ρ with
  | bad => rw [hA] at p; exact p.elim
  | exc ρ' x => rw [hA] at p; exact p
  | ok q =>
    obtain ⟨ρ1, as⟩ := q
    rw [hA] at p
    rw [Out.bind_ok] at p
    intro vs H1 S1 s1 e1 hs n a t
    dsimp only at p
    cases hr : resAll ρ1 as with
    | none => rw [hr] at p; exact p.elim
    | some ds =>
      rw [hr] at p
      simp only [Option.bind_some] at p
      cases hf : f ds with
      | none => rw [hf] at p; exact p.elim
      | some xs =>
        rw [hf] at p
        obtain ⟨fz, J, Ct, sr, hc, k⟩ := ho _ H1 vs ds xs Q (hs.rp e1 hr) hf
        exact k (p J H1 S1 s1 Ct e1 a t sr.more (hc (pl B0 s1) S1 σ ρ1 rfl))
def rng1 : List D → Option (List D)
  | [.int j] => if smallI j then some (rangeD 0 j.toNat) else none
  | _ => none
def rng2 : List D → Option (List D)
  | [.int i, .int j] => if smallI i && smallI j then some (rangeD i (j - i).toNat) else none
  | _ => none
theorem iv_rng1 {ta : TA} {A : VL} (ha : AL K E ta A) : IV K E (iRng1 ta) (vOpI rng1 A) := by
  refine iv_op (r := fun vs H1 R => ∃ j : Int, vs = [.int j] ∧ -(2 ^ 62) ≤ j ∧ j < 2 ^ 62 ∧ R (Itr 0 j.toNat) H1) ha (fun _ _ _ h => h) fun B H vs ds xs R rp hf => ?_
  unfold rng1 at hf
  split at hf
  · split at hf
    · rename_i j hj
      cases hf
      obtain ⟨h1, h2⟩ := smallI_iff hj
      exact ⟨rangeD_fz, Itr 0 j.toNat, _, src_none rangeD_fz fun _ _ _ _ _ _ => jf_r, fun _ _ _ _ _ => trivial, fun q => ⟨j, rp.one_int, h1, h2, q⟩⟩
    · cases hf
  · cases hf
theorem iv_rng2 {ta : TA} {A : VL} (ha : AL K E ta A) : IV K E (iRng2 ta) (vOpI rng2 A) := by
  refine iv_op (r := fun vs H1 R => ∃ i j : Int, vs = [.int i, .int j] ∧ (-(2 ^ 62) ≤ i ∧ i < 2 ^ 62 ∧ -(2 ^ 62) ≤ j ∧ j < 2 ^ 62) ∧ R (Itr i (j - i).toNat) H1) ha (fun _ _ _ h => h) fun B H vs ds xs R rp hf => ?_
  unfold rng2 at hf
  split at hf
  · split at hf
    · rename_i i j hj
      cases hf
      obtain ⟨a, b⟩ := Bool.and_eq_true_iff.mp hj
      obtain ⟨h1, h2⟩ := smallI_iff a
      obtain ⟨h3, h4⟩ := smallI_iff b
      exact ⟨rangeD_fz, Itr i (j - i).toNat, _, src_none rangeD_fz fun _ _ _ _ _ _ => jf_r, fun _ _ _ _ _ => trivial, fun q => ⟨i, j, rp.two_int, ⟨h1, h2, h3, h4⟩, q⟩⟩
    · cases hf
  · cases hf
/-! ### enumerate, zip: of frozen things -/
def enumD : Nat → List D → List D
  | _, [] => []
  | i, d :: ds => .tup true [.int (i : Nat), d] :: enumD (i + 1) ds
theorem enumD_fz : ∀ {ds : List D} {i : Nat}, fzs ds = true → fzs (enumD i ds) = true
  | [], _, _ => rfl
  | d :: ds, i, h => by
    rw [fzs, Bool.and_eq_true] at h
    rw [enumD, fzs, enumD_fz h.2, D.fz, fzs, fzs, h.1]
    rfl
theorem enumD_get : ∀ {ds : List D} {i k : Nat}, (enumD i ds)[k]? = (ds[k]?).map fun d => D.tup true [.int ((i + k : Nat) : Int), d]
  | [], _, _ => rfl
  | d :: ds, i, 0 => rfl
  | d :: ds, i, k + 1 => by
    rw [enumD, List.getElem?_cons_succ, List.getElem?_cons_succ, enumD_get, show i + 1 + k = i + (k + 1) from by omega]
theorem enumD_len : ∀ {ds : List D} {i : Nat}, (enumD i ds).length = ds.length
  | [], _ => rfl
  | d :: ds, i => by rw [enumD, List.length_cons, List.length_cons, enumD_len]
theorem pair_new {T : Addr} {x y : V} {d e : D} (hT : H T = none) (hB : ∀ a, B a → ∃ o : MO, H a = some o.1) (r1 : R K B H x d []) (r2 : R K B H y e []) : R K B (L2.upd H T (.tup [x, y])) (.ref T) (.tup true [d, e]) [] := by
  have m : Same H (L2.upd H T (.tup [x, y])) := sameN hT
  refine .tupK upd_same (fun z => ?_) (Rs.cons (r1.mono (fun a o q _ => m a o q) fun _ _ _ n => n) (Rs.cons (r2.mono (fun a o q _ => m a o q) fun _ _ _ n => n) .nil))
  obtain ⟨o, ho⟩ := hB T z
  rw [hT] at ho
  cases ho
def fEnum : List D → Option (List D)
  | [.lst o xs] => if fzs xs && !o then some (enumD 0 xs) else none
  | _ => none
theorem iv_enum {ta : TA} {A : VL} (ha : AL K E ta A) : IV K E (iEnum K ta) (vOpI fEnum A) := by
  refine iv_op (r := fun vs H1 R => ∃ a xs, vs = [.ref a] ∧ SqL K H1 a xs ∧ R (Ite K a) H1) ha (fun _ _ _ h => h) fun B H vs ds xs R rp hf => ?_
  unfold fEnum at hf
  split at hf
  · split at hf
    · rename_i o xs' hc
      cases hf
      obtain ⟨h1, h2⟩ := Bool.and_eq_true_iff.mp hc
      match rp with
      | .cons r .nil =>
        cases r with
        | lstO => simp at h2
        | lstF h n t =>
          rename_i a ws
          refine ⟨enumD_fz h1, Ite K a, _, src_val (s := []) (v := .ref a) (d := .lst false xs') (enumD_fz h1) fun B σ ρ H S e r => ?_, fun B0 S σ ρ hB => ?_, fun q => ⟨a, ws, rfl, SqL.of h, q⟩⟩
          · cases r with
            | lstF h n t =>
              rename_i ws
              refine ⟨⟨ws, SqL.of h, by rw [enumD_len, t.len]; exact Nat.le_refl _⟩, fun i hi => ?_, fun i x H' d hd y => ?_⟩
              · rw [enumD_len, ← t.len] at hi
                exact ⟨ws, ws[i], SqL.of h, List.getElem?_eq_getElem hi⟩
              · obtain ⟨T, x', rfl, hT, rfl, hx⟩ := y
                rw [enumD_get] at hd
                obtain ⟨d', hd', rfl⟩ := Option.map_eq_some_iff.mp hd
                obtain ⟨v, hv, rv⟩ := t.get hd'
                rw [hx ws (SqL.of h)] at hv
                cases hv
                rw [Nat.zero_add]
                exact ⟨sameN hT, pair_new hT (fun a q => e.tr q) .int rv⟩
          · rw [← hB]
            exact .lstF h n t
    · cases hf
  · cases hf
def zipD : List D → List D → List D
  | x :: xs, y :: ys => .tup true [x, y] :: zipD xs ys
  | _, _ => []
theorem zipD_fz : ∀ {xs ys : List D}, fzs xs = true → fzs ys = true → fzs (zipD xs ys) = true
  | [], _, _, _ => rfl
  | _ :: _, [], _, _ => rfl
  | x :: xs, y :: ys, h, k => by
    rw [fzs, Bool.and_eq_true] at h k
    rw [zipD, fzs, zipD_fz h.2 k.2, D.fz, fzs, fzs, fzs, h.1, k.1]
    rfl
theorem zipD_get : ∀ {xs ys : List D} {i : Nat} {d : D}, (zipD xs ys)[i]? = some d → ∃ x y, xs[i]? = some x ∧ ys[i]? = some y ∧ d = .tup true [x, y]
  | [], _, _, _, h => by simp [zipD] at h
  | _ :: _, [], _, _, h => by simp [zipD] at h
  | x :: xs, y :: ys, 0, d, h => by simp [zipD] at h; exact ⟨x, y, rfl, rfl, h.symm⟩
  | x :: xs, y :: ys, i + 1, d, h => by
    rw [zipD, List.getElem?_cons_succ] at h
    simpa using zipD_get h
theorem zipD_len : ∀ {xs ys : List D}, (zipD xs ys).length = min xs.length ys.length
  | [], _ => by simp [zipD]
  | _ :: _, [] => by simp [zipD]
  | x :: xs, y :: ys => by rw [zipD, List.length_cons, zipD_len, List.length_cons, List.length_cons]; omega
def fZip : List D → Option (List D)
  | [.lst false xs, .lst false ys] => if fzs xs && fzs ys then some (zipD xs ys) else none
  | [.tup _ xs, .tup _ ys] => if fzs xs && fzs ys then some (zipD xs ys) else none
  | _ => none
theorem iv_zip {ta : TA} {A : VL} (ha : AL K E ta A) : IV K E (RZ.iZipA K ta) (vOpI fZip A) := by
  refine iv_op (r := fun vs H1 R => ∃ a b xs ys, vs = [.ref a, .ref b] ∧ ((SqL K H1 a xs ∧ SqL K H1 b ys ∧ R (Itz K a b) H1) ∨ (SqT K H1 a xs ∧ SqT K H1 b ys ∧ R (RZ.ItzT K a b) H1))) ha (fun _ _ _ h => h) fun B H vs ds xs R rp hf => ?_
  unfold fZip at hf
  split at hf
  · split at hf
    · rename_i xs' ys' hc
      cases hf
      obtain ⟨h1, h2⟩ := Bool.and_eq_true_iff.mp hc
      match rp with
      | .cons (.lstF (a := a) (vs := us) h n t) (.cons (.lstF (a := b) (vs := ws) h' n' t') .nil) =>
        refine ⟨zipD_fz h1 h2, Itz K a b, _, src_val2 (v := .ref a) (d := .lst false xs') (v2 := .ref b) (d2 := .lst false ys') (zipD_fz h1 h2) fun B σ ρ H S e r r' => ?_, fun B0 S σ ρ hB => ?_, fun q => ⟨a, b, us, ws, rfl, .inl ⟨SqL.of h, SqL.of h', q⟩⟩⟩
        · match r, r' with
          | .lstF (vs := us) h n t, .lstF (vs := ws) h' n' t' =>
            refine ⟨⟨us, ws, SqL.of h, SqL.of h', by rw [zipD_len, t.len, t'.len]; omega⟩, fun i hi => ?_, fun i x H' d hd y => ?_⟩
            · rw [zipD_len, ← t.len, ← t'.len] at hi
              exact ⟨us, ws, us[i]'(by omega), ws[i]'(by omega), SqL.of h, SqL.of h', List.getElem?_eq_getElem _, List.getElem?_eq_getElem _⟩
            · obtain ⟨T, x', y', rfl, hT, rfl, hx, hy⟩ := y
              obtain ⟨d1, d2, h1', h2', rfl⟩ := zipD_get hd
              obtain ⟨v, hv, rv⟩ := t.get h1'
              obtain ⟨w, hw, rw'⟩ := t'.get h2'
              rw [hx us (SqL.of h)] at hv
              rw [hy ws (SqL.of h')] at hw
              cases hv
              cases hw
              exact ⟨sameN hT, pair_new hT (fun a q => e.tr q) rv rw'⟩
        · rw [← hB]
          exact ⟨.lstF h n t, .lstF h' n' t'⟩
    · cases hf
  · split at hf
    · rename_i k xs' k' ys' hc
      cases hf
      obtain ⟨h1, h2⟩ := Bool.and_eq_true_iff.mp hc
      match rp with
      | .cons (s := sa) r (.cons (s := sb) r' .nil) =>
        have za : sa = [] := r.nil (by rw [D.fz]; exact h1)
        have zb : sb = [] := r'.nil (by rw [D.fz]; exact h2)
        subst za zb
        obtain ⟨a, us, rfl, h, t⟩ := r.tup'
        obtain ⟨b, ws, rfl, h', t'⟩ := r'.tup'
        refine ⟨zipD_fz h1 h2, RZ.ItzT K a b, _, src_val2 (v := .ref a) (d := .tup k xs') (v2 := .ref b) (d2 := .tup k' ys') (zipD_fz h1 h2) fun B σ ρ H S e r r' => ?_, fun B0 S σ ρ hB => ?_, fun q => ⟨a, b, us, ws, rfl, .inr ⟨h.sq, h'.sq, q⟩⟩⟩
        · obtain ⟨a', us, ea, h, t⟩ := r.tup'
          obtain ⟨b', ws, eb, h', t'⟩ := r'.tup'
          cases ea
          cases eb
          refine ⟨⟨us, ws, h.sq, h'.sq, by rw [zipD_len, t.len, t'.len]; omega⟩, fun i hi => ?_, fun i x H' d hd y => ?_⟩
          · rw [zipD_len, ← t.len, ← t'.len] at hi
            exact ⟨us, ws, us[i]'(by omega), ws[i]'(by omega), h.sq, h'.sq, List.getElem?_eq_getElem _, List.getElem?_eq_getElem _⟩
          · obtain ⟨T, x', y', rfl, hT, rfl, hx, hy⟩ := y
            obtain ⟨d1, d2, h1', h2', rfl⟩ := zipD_get hd
            obtain ⟨v, hv, rv⟩ := t.get h1'
            obtain ⟨w, hw, rw'⟩ := t'.get h2'
            rw [hx us h.sq] at hv
            rw [hy ws h'.sq] at hw
            cases hv
            cases hw
            exact ⟨sameN hT, pair_new hT (fun a q => e.tr q) rv rw'⟩
        · rw [← hB]
          exact ⟨r, r'⟩
    · cases hf
  · cases hf
/-! ### for -/
def depOk (dep : Dep) (W : List Nat) : Bool := match dep with
  | none => true
  | some (i, _) => decide (i ∉ W)
noncomputable def vFor (W : List Nat) (I : VI) (G : VG) (F : VS) : VS := fun ρ => (I ρ).bind fun q => if depOk q.2.2 W then vLoop (chkO q.2.2) (vTurn G F) q.2.1 q.1 else .bad
theorem sv_for {W1 W2 : List Nat} {wi : TI} {I : VI} {g : TG} {G : VG} {tb : TS} {F : VS} (hi : IV K E wi I) (hg : GV K W1 g G) (hb : SV K E W2 tb F) : SV K E (W1 ++ W2) (tFor wi g tb) (vFor (W1 ++ W2) I G F) := fun B0 σ H ρ S D e p => by
  refine hi B0 σ H ρ S _ e ?_
  unfold vFor at p
  cases hA : I ρ with
  | bad => rw [hA] at p; exact p.elim
  | exc ρ' x =>
    rw [hA] at p
    exact fun H' S' dd e r u => p σ H' S' dd e r u Fr.refl
  | ok q =>
    obtain ⟨ρ1, xs, dep⟩ := q
    rw [hA] at p
    rw [Out.bind_ok] at p
    intro J H1 S1 s1 Ct e1 a1 t1 sr c
    dsimp only at p
    by_cases hd : depOk dep (W1 ++ W2) = true
    · rw [if_pos hd] at p
      exact for_ev (X := fun _ => False) sr ⟨fun x m => .inr m, fun _ _ z => z, fun _ z => z.elim, fun i d hh => by subst hh; exact of_decide_eq_true hd⟩ hg hb (fun j m => List.mem_append_left _ m) (fun j m => List.mem_append_right _ m) e1 c (SPost.more (SPost.back (W1 := []) (t1.sub fun _ m => nomatch m) Fr.refl (fun _ m => nomatch m) (fun _ z => z) p))
    · rw [if_neg hd] at p
      exact p.elim
end EV

set_option Elab.async false
set_option linter.all false
set_option maxRecDepth 100000
set_option maxHeartbeats 1000000
/-! EVa: functions: their promise by values; calls. -/
namespace EV
open PySem L2
variable {K : PySem.W.Frag} {B B' B0 B1 : Bs} {H H1 H2 H' : Hp} {σ σ' σ1 : St} {ρ ρ1 ρ2 ρ' : Env} {S S1 S2 S' : Nat → List Addr} {s s1 s2 : List Addr} {E : St → XK} {Q : VK}
abbrev FnV := List D → Out (List D × D)
def FPost (K : PySem.W.Frag) (vs : List V) (B0 : Bs) (H : Hp) (S : Nat → List Addr) (Q : VK) (E : XK) : Out (List D × D) → Prop
  | .ok (ds', r) => ∀ v H' S' s, EnvR K (pl B0 s) H' (vs.map some) (ds'.map some) S' → R K (bl (pl B0 s) S') H' v r s → s.Nodup → (∀ a ∈ s, ¬ B0 a) → Step H S H' S' s → Q v H'
  | .exc ρ' x => ∀ H' S' dd, EnvR K B0 H' (vs.map some) ρ' S' → XR K (bl B0 S') H' x dd → Step H S H' S' [] → E (.ref x.C) dd H'
  | .bad => False
/-- called with these data it returns that, and leaves its arguments so -/
def spV (K : PySem.W.Frag) (F : FnV) : Sp := fun vs H Q E => ∃ (ds : List D) (B0 : Bs) (S : Nat → List Addr), EnvR K B0 H (vs.map some) (ds.map some) S ∧ FPost K vs B0 H S Q E (F ds)
/-! ### calls -/
/-- what each operand owns -/
structure Segs (K : PySem.W.Frag) (B : Bs) (H : Hp) (σ : St) (S : Nat → List Addr) (vs : List V) (as : List Arg) (ds : List D) (s : List Addr) (L : List (List Addr)) : Prop where
  lv : vs.length = as.length
  ld : ds.length = as.length
  ll : L.length = as.length
  r : ∀ (k : Nat) v d T, vs[k]? = some v → ds[k]? = some d → L[k]? = some T → R K B H v d T
  val : ∀ (k : Nat) d T, as[k]? = some (.val d) → L[k]? = some T → ∀ a ∈ T, a ∈ s
  slot : ∀ (k : Nat) i T, as[k]? = some (.slot i) → L[k]? = some T → T = S i
  nd : ∀ (k : Nat) T, L[k]? = some T → T.Nodup
  at_ : ∀ (k : Nat) i v, as[k]? = some (.slot i) → vs[k]? = some v → σ[i]? = some (some v)
  dj : ∀ (k l : Nat) d e T U a, as[k]? = some (.val d) → as[l]? = some (.val e) → L[k]? = some T → L[l]? = some U → a ∈ T → a ∈ U → k = l
theorem Hs.segs : ∀ {vs as s' ds}, EnvR K (pl B0 s) H σ ρ S → Hs K (bl (pl B0 s) S) H σ vs as s' → resAll ρ as = some ds → s'.Nodup → ∃ L, Segs K (bl (pl B0 s) S) H σ S vs as ds s' L
  | _, _, _, _, _, .nil, h, _ => by
    cases h
    exact ⟨[], rfl, rfl, rfl, fun k v d T a => by simp at a, fun k d T a => by simp at a, fun k i T a => by simp at a, fun k T a => by simp at a, fun k i v a => by simp at a, fun k l d e T U x a => by simp at a⟩
  | v :: vs, _, _, ds, e, .val (d := d) (s := sv) (as := as) (T := sT) r t, h, nd => by
    unfold resAll at h
    simp only [Arg.res] at h
    cases hr : resAll ρ as with
    | none => rw [hr] at h; cases h
    | some ds' =>
      rw [hr] at h
      cases h
      obtain ⟨n1, n2, n3⟩ := List.nodup_append.mp nd
      obtain ⟨L, g⟩ := t.segs e hr n2
      refine ⟨sv :: L, congrArg (· + 1) g.lv, congrArg (· + 1) g.ld, congrArg (· + 1) g.ll, fun k v' d' T a b c => ?_, fun k d' T a b x m => ?_, fun k i T a b => ?_, fun k T a => ?_, fun k i v a b => ?_, fun k l d1 d2 T U x a b c c' m m' => ?_⟩
      · cases k with
        | zero => simp at a b c; subst a b c; exact r
        | succ k => exact g.r k v' d' T (by simpa using a) (by simpa using b) (by simpa using c)
      · cases k with
        | zero => simp at b; subst b; exact List.mem_append_left _ m
        | succ k => exact List.mem_append_right _ (g.val k d' T (by simpa using a) (by simpa using b) x m)
      · cases k with
        | zero => simp at a
        | succ k => exact g.slot k i T (by simpa using a) (by simpa using b)
      · cases k with
        | zero => simp at a; subst a; exact n1
        | succ k => exact g.nd k T (by simpa using a)
      · cases k with
        | zero => simp at a
        | succ k => exact g.at_ k i v (by simpa using a) (by simpa using b)
      · cases k with
        | zero =>
          simp at c
          subst c
          cases l with
          | zero => rfl
          | succ l => exact absurd rfl (n3 x m x (g.val l d2 U (by simpa using b) (by simpa using c') x m'))
        | succ k =>
          cases l with
          | zero =>
            simp at c'
            subst c'
            exact absurd rfl (n3 x m' x (g.val k d1 T (by simpa using a) (by simpa using c) x m))
          | succ l => exact congrArg (· + 1) (g.dj k l d1 d2 T U x (by simpa using a) (by simpa using b) (by simpa using c) (by simpa using c') m m')
  | v :: vs, _, _, ds, e, .slot (i := i) (as := as) hv t, h, nd => by
    unfold resAll at h
    simp only [Arg.res] at h
    cases hj : (ρ[i]?).join with
    | none => rw [hj] at h; cases h
    | some d =>
      rw [hj] at h
      cases hr : resAll ρ as with
      | none => rw [hr] at h; cases h
      | some ds' =>
        rw [hr] at h
        cases h
        obtain ⟨v', h1, r⟩ := e.sl i d (join_some.mp hj)
        rw [hv] at h1
        cases h1
        obtain ⟨L, g⟩ := t.segs e hr nd
        refine ⟨S i :: L, congrArg (· + 1) g.lv, congrArg (· + 1) g.ld, congrArg (· + 1) g.ll, fun k v' d' T a b c => ?_, fun k d' T a b x m => ?_, fun k i' T a b => ?_, fun k T a => ?_, fun k i v a b => ?_, fun k l d1 d2 T U x a b c c' m m' => ?_⟩
        · cases k with
          | zero => simp at a b c; subst a b c; exact r
          | succ k => exact g.r k v' d' T (by simpa using a) (by simpa using b) (by simpa using c)
        · cases k with
          | zero => simp at a
          | succ k => exact g.val k d' T (by simpa using a) (by simpa using b) x m
        · cases k with
          | zero => simp at a b; subst a b; rfl
          | succ k => exact g.slot k i' T (by simpa using a) (by simpa using b)
        · cases k with
          | zero => simp at a; subst a; exact e.nd i
          | succ k => exact g.nd k T (by simpa using a)
        · cases k with
          | zero => simp at a b; subst a b; exact hv
          | succ k => exact g.at_ k _ _ (by simpa using a) (by simpa using b)
        · cases k with
          | zero => simp at a
          | succ k =>
            cases l with
            | zero => simp at b
            | succ l => exact congrArg (· + 1) (g.dj k l d1 d2 T U x (by simpa using a) (by simpa using b) (by simpa using c) (by simpa using c') m m')
/-- no owned thing is handed over twice -/
def once (ρ : Env) : List Arg → Bool
  | [] => true
  | .val _ :: as => once ρ as
  | .slot i :: as => (((ρ[i]?).join.map D.fz).getD false || !(as.any fun a => match a with | .slot j => i == j | _ => false)) && once ρ as
theorem once_dj : ∀ {as : List Arg}, once ρ as = true → ∀ (k l i : Nat), as[k]? = some (Arg.slot i) → as[l]? = some (Arg.slot i) → k ≠ l → ∃ d : D, ρ[i]? = some (some d) ∧ d.fz = true
  | [], _, k, l, i, a, _, _ => by simp at a
  | .val _ :: as, h, k, l, i, a, b, n => by
    unfold once at h
    cases k with
    | zero => simp at a
    | succ k =>
      cases l with
      | zero => simp at b
      | succ l => exact once_dj h k l i (by simpa using a) (by simpa using b) fun z => n (congrArg (· + 1) z)
  | .slot i0 :: as, h, k, l, i, a, b, n => by
    unfold once at h
    obtain ⟨h1, h2⟩ := Bool.and_eq_true_iff.mp h
    have head : ∀ l : Nat, as[l]? = some (Arg.slot i0) → ∃ d : D, ρ[i0]? = some (some d) ∧ d.fz = true := fun l b => by
      rcases Bool.or_eq_true_iff.mp h1 with q | q
      · cases hj : (ρ[i0]?).join with
        | none => rw [hj] at q; cases q
        | some d => rw [hj] at q; exact ⟨d, join_some.mp hj, q⟩
      · have m := List.mem_of_getElem? b
        have : (as.any fun a => match a with | .slot j => i0 == j | _ => false) = true := List.any_eq_true.mpr ⟨_, m, by simp⟩
        rw [this] at q
        cases q
    cases k with
    | zero =>
      cases l with
      | zero => exact absurd rfl n
      | succ l =>
        simp at a
        subst a
        exact head l (by simpa using b)
    | succ k =>
      cases l with
      | zero =>
        simp at b
        subst b
        exact head k (by simpa using a)
      | succ l => exact once_dj h2 k l i (by simpa using a) (by simpa using b) fun z => n (congrArg (· + 1) z)
/-- the thing of a slot may be changed -/
def owned (ρ : Env) (i : Nat) : Bool := match (ρ[i]?).join with
  | some d => !d.fz
  | none => false
/-- behind the call: what was owned is as the call left it -/
def putB (ρ0 : Env) (ρ : Env) : List Arg → Env → Env
  | .slot i :: as, d :: ds => putB ρ0 (if owned ρ0 i then ρ.set i d else ρ) as ds
  | .val _ :: as, _ :: ds => putB ρ0 ρ as ds
  | _, _ => ρ
theorem putB_len {ρ0 : Env} : ∀ {as : List Arg} {ds : Env} {ρ : Env}, (putB ρ0 ρ as ds).length = ρ.length
  | [], _, _ => by unfold putB; rfl
  | .slot i :: as, d :: ds, ρ => by
    unfold putB
    rw [putB_len]
    split
    · rw [List.length_set]
    · rfl
  | .val _ :: as, _ :: ds, ρ => by unfold putB; rw [putB_len]
  | .slot i :: as, [], _ => by unfold putB; rfl
  | .val _ :: as, [], _ => by unfold putB; rfl
theorem putB_at {ρ0 : Env} : ∀ {as : List Arg} {ds : Env} {ρ : Env} {j : Nat} {d : D}, as.length = ds.length → (putB ρ0 ρ as ds)[j]? = some (some d) →
    (ρ[j]? = some (some d) ∧ (∀ k : Nat, as[k]? = some (Arg.slot j) → owned ρ0 j = false)) ∨ (owned ρ0 j = true ∧ ∃ k : Nat, as[k]? = some (Arg.slot j) ∧ ds[k]? = some (some d))
  | [], ds, ρ, j, d, _, h => by
    unfold putB at h
    exact .inl ⟨h, fun k a => by simp at a⟩
  | .slot i :: as, [], ρ, j, d, l, h => by simp at l
  | .val _ :: as, [], ρ, j, d, l, h => by simp at l
  | .val _ :: as, e :: ds, ρ, j, d, l, h => by
    unfold putB at h
    rcases putB_at (by simpa using l) h with ⟨h1, h2⟩ | ⟨ho, k, h1, h2⟩
    · refine .inl ⟨h1, fun k a => ?_⟩
      cases k with
      | zero => simp at a
      | succ k => exact h2 k (by simpa using a)
    · exact .inr ⟨ho, k + 1, by simpa using h1, by simpa using h2⟩
  | .slot i :: as, e :: ds, ρ, j, d, l, h => by
    unfold putB at h
    rcases putB_at (by simpa using l) h with ⟨h1, h2⟩ | ⟨ho, k, h1, h2⟩
    · by_cases hj : j = i
      · subst hj
        by_cases hn : owned ρ0 j = true
        · rw [if_pos hn] at h1
          have hl : j < ρ.length := by
            have := (List.getElem?_eq_some_iff.mp h1).1
            rw [List.length_set] at this
            exact this
          rw [List.getElem?_set_self hl] at h1
          exact .inr ⟨hn, 0, rfl, by simpa using h1⟩
        · rw [if_neg hn] at h1
          exact .inl ⟨h1, fun k a => by simpa using hn⟩
      · have h1' : ρ[j]? = some (some d) := by
          split at h1
          · rw [List.getElem?_set_ne (Ne.symm hj)] at h1; exact h1
          · exact h1
        refine .inl ⟨h1', fun k a => ?_⟩
        cases k with
        | zero => simp at a; exact absurd a.symm hj
        | succ k => exact h2 k (by simpa using a)
    · exact .inr ⟨ho, k + 1, by simpa using h1, by simpa using h2⟩
open Classical in
/-- the caller's records behind the call -/
noncomputable def sBack (ρ : Env) (as : List Arg) (S1 S2 : Nat → List Addr) : Nat → List Addr := fun j => if h : owned ρ j = true ∧ ∃ k : Nat, as[k]? = some (Arg.slot j) then S2 h.2.choose else S1 j
section
variable {vs : List V} {as : List Arg} {ds : List D} {L : List (List Addr)} {ps : Env}
/-- what others than the operands own -/
def oth (B0 : Bs) (ρ : Env) (as : List Arg) (S : Nat → List Addr) : Bs := fun a => B0 a ∨ ∃ j, ¬ (owned ρ j = true ∧ ∃ k : Nat, as[k]? = some (Arg.slot j)) ∧ a ∈ S j
def segS (L : List (List Addr)) : Nat → List Addr := fun k => (L[k]?).getD []
theorem segS_mem {k : Nat} {a : Addr} (h : a ∈ segS L k) : ∃ T, L[k]? = some T ∧ a ∈ T := by
  unfold segS at h
  cases e : L[k]? with
  | none => rw [e] at h; cases h
  | some T => rw [e] at h; exact ⟨T, rfl, h⟩
theorem frozen_nil (e : EnvR K B0 H σ ρ S) {i : Nat} {d : D} (h : ρ[i]? = some (some d)) (f : d.fz = true) : S i = [] := by
  obtain ⟨v, _, r⟩ := e.sl i d h
  exact r.nil f
theorem Segs.arg (g : Segs K B H σ S vs as ds s L) {k : Nat} {T : List Addr} (h : L[k]? = some T) : ∃ a, as[k]? = some a := by
  have := (List.getElem?_eq_some_iff.mp h).1
  rw [g.ll] at this
  exact ⟨_, List.getElem?_eq_getElem this⟩
theorem Segs.inB (g : Segs K B H σ S1 vs as ds s1 L) {k : Nat} {a : Addr} (h : a ∈ segS L k) : a ∈ s1 ∨ ∃ i, as[k]? = some (.slot i) ∧ a ∈ S1 i := by
  obtain ⟨T, hT, m⟩ := segS_mem h
  obtain ⟨x, hx⟩ := g.arg hT
  cases x with
  | val d => exact .inl (g.val k d T hx hT a m)
  | slot i =>
    rw [g.slot k i T hx hT] at m
    exact .inr ⟨i, hx, m⟩
theorem resAll_slot {i : Nat} : ∀ {as : List Arg} {ds : List D} {k : Nat}, resAll ρ as = some ds → as[k]? = some (Arg.slot i) → ∃ d, (ρ[i]?).join = some d
  | [], ds, k, _, h => by simp at h
  | x :: as, ds, k, h1, h2 => by
    unfold resAll at h1
    cases hx : x.res ρ with
    | none => rw [hx] at h1; cases h1
    | some d0 =>
      cases hy : resAll ρ as with
      | none => rw [hx, hy] at h1; cases h1
      | some ds0 =>
        cases k with
        | zero => simp at h2; subst h2; exact ⟨d0, hx⟩
        | succ k => exact resAll_slot (k := k) hy (by simpa using h2)
theorem own_of (e : EnvR K B0 H σ ρ S1) (hr : resAll ρ as = some ds) {i k : Nat} {a : Addr} (m : a ∈ S1 i) (hk : as[k]? = some (Arg.slot i)) : owned ρ i = true := by
  obtain ⟨d, hd⟩ := resAll_slot hr hk
  unfold owned
  rw [hd]
  cases hf : d.fz with
  | false => simp [hf]
  | true =>
    rw [frozen_nil e (join_some.mp hd) hf] at m
    cases m
/-- the callee's view -/
theorem enter (e : EnvR K (pl B0 s1) H σ ρ S1) (g : Segs K (bl (pl B0 s1) S1) H σ S1 vs as ds s1 L) (o : once ρ as = true) (hr : resAll ρ as = some ds) (a1 : ∀ x ∈ s1, ¬ B0 x) : EnvR K (oth B0 ρ as S1) H (vs.map some) (ds.map some) (segS L) := by
  have sub : ∀ a, bl (oth B0 ρ as S1) (segS L) a → bl (pl B0 s1) S1 a := fun a q => by
    rcases q with (q | ⟨j, _, q⟩) | ⟨k, q⟩
    · exact .inl (.inl q)
    · exact .inr ⟨j, q⟩
    · rcases g.inB q with q | ⟨i, _, q⟩
      · exact .inl (.inr q)
      · exact .inr ⟨i, q⟩
  refine ⟨fun k d h => ?_, fun k => ?_, fun k l a h1 h2 => ?_, fun k a h z => ?_, fun a h => ?_, fun k a h => ?_, ?_⟩
  · have hd : ds[k]? = some d := by
      rw [List.getElem?_map] at h
      cases q : ds[k]? with
      | none => rw [q] at h; cases h
      | some d' => rw [q] at h; simpa using h
    have hk : k < ds.length := (List.getElem?_eq_some_iff.mp hd).1
    obtain ⟨v, hv⟩ : ∃ v, vs[k]? = some v := ⟨_, List.getElem?_eq_getElem (by rw [g.lv, ← g.ld]; exact hk)⟩
    obtain ⟨T, hL⟩ : ∃ T, L[k]? = some T := ⟨_, List.getElem?_eq_getElem (by rw [g.ll, ← g.ld]; exact hk)⟩
    refine ⟨v, by rw [List.getElem?_map, hv]; rfl, ?_⟩
    have e1 : segS L k = T := by unfold segS; rw [hL]; rfl
    rw [e1]
    exact (g.r k _ d _ hv hd hL).mono (fun _ _ q _ => q) fun a _ _ n z => n (sub a z)
  · unfold segS
    cases q : L[k]? with
    | none => exact List.nodup_nil
    | some T => exact g.nd k T q
  · obtain ⟨T, hT, m1⟩ := segS_mem h1
    obtain ⟨U, hU, m2⟩ := segS_mem h2
    obtain ⟨x, hx⟩ := g.arg hT
    obtain ⟨y, hy⟩ := g.arg hU
    cases x with
    | val d =>
      cases y with
      | val d' => exact g.dj k l d d' T U a hx hy hT hU m1 m2
      | slot j =>
        rw [g.slot l j U hy hU] at m2
        exact absurd (Or.inr (g.val k d T hx hT a m1)) (e.av j a m2)
    | slot i =>
      rw [g.slot k i T hx hT] at m1
      cases y with
      | val d' => exact absurd (Or.inr (g.val l d' U hy hU a m2)) (e.av i a m1)
      | slot j =>
        rw [g.slot l j U hy hU] at m2
        have ij := e.dj i j a m1 m2
        subst ij
        by_cases hkl : k = l
        · exact hkl
        · obtain ⟨d, hd, hf⟩ := once_dj o k l i hx hy hkl
          rw [frozen_nil e hd hf] at m1
          cases m1
  · rcases g.inB h with m | ⟨i, hi, m⟩
    · rcases z with z | ⟨j, _, z⟩
      · exact a1 a m z
      · exact e.av j a z (.inr m)
    · rcases z with z | ⟨j, hj, z⟩
      · exact e.av i a m (.inl z)
      · have ij := e.dj i j a m z
        subst ij
        exact hj ⟨own_of e hr m hi, k, hi⟩
  · rcases h with h | ⟨j, _, h⟩
    · exact e.tb a (.inl h)
    · exact e.ts j a h
  · rcases g.inB h with m | ⟨i, _, m⟩
    · exact e.tb a (.inr m)
    · exact e.ts i a m
  · rw [List.length_map, List.length_map, g.lv, g.ld]
/-- the caller's view behind the call -/
theorem leave {S0 : Nat → List Addr} {H0 : Hp} (t0 : Step H0 S0 H1 S1 s1) (e : EnvR K (pl B0 s1) H1 σ ρ S1) (g : Segs K (bl (pl B0 s1) S1) H1 σ S1 vs as ds s1 L) (o : once ρ as = true) (hr : resAll ρ as = some ds) (hps : ps.length = as.length) (e2 : EnvR K (pl (oth B0 ρ as S1) s2) H2 (vs.map some) ps S2) (a2 : ∀ x ∈ s2, ¬ oth B0 ρ as S1 x) (t : Step H1 (segS L) H2 S2 s2) :
    EnvR K (pl B0 s2) H2 σ (putB ρ ρ as ps) (sBack ρ as S1 S2) ∧ Step H0 S0 H2 (sBack ρ as S1 S2) s2 ∧ ∀ a, bl (pl B0 s2) (sBack ρ as S1 S2) a → bl (pl (oth B0 ρ as S1) s2) S2 a := by
  have sb : ∀ j a, a ∈ sBack ρ as S1 S2 j → (∃ k : Nat, owned ρ j = true ∧ as[k]? = some (Arg.slot j) ∧ a ∈ S2 k) ∨ (¬ (owned ρ j = true ∧ ∃ k : Nat, as[k]? = some (Arg.slot j)) ∧ a ∈ S1 j) := fun j a m => by
    unfold sBack at m
    split at m
    · rename_i h
      exact .inl ⟨_, h.1, h.2.choose_spec, m⟩
    · rename_i h
      exact .inr ⟨h, m⟩
  have uniq : ∀ {j k l : Nat}, owned ρ j = true → as[k]? = some (Arg.slot j) → as[l]? = some (Arg.slot j) → k = l := fun {j k l} ho h1 h2 => by
    by_cases hkl : k = l
    · exact hkl
    · obtain ⟨d, hd, hf⟩ := once_dj o k l j h1 h2 hkl
      unfold owned at ho
      rw [join_some.mpr hd] at ho
      simp [hf] at ho
  have sbk : ∀ {j k : Nat}, owned ρ j = true → as[k]? = some (Arg.slot j) → sBack ρ as S1 S2 j = S2 k := fun {j k} ho h1 => by
    unfold sBack
    have h : owned ρ j = true ∧ ∃ k : Nat, as[k]? = some (Arg.slot j) := ⟨ho, k, h1⟩
    rw [dif_pos h, uniq ho h.2.choose_spec h1]
  have sbn : ∀ {j : Nat}, ¬ (owned ρ j = true ∧ ∃ k : Nat, as[k]? = some (Arg.slot j)) → sBack ρ as S1 S2 j = S1 j := fun {j} h => by
    unfold sBack
    rw [dif_neg h]
  have sub : ∀ a, bl (pl B0 s2) (sBack ρ as S1 S2) a → bl (pl (oth B0 ρ as S1) s2) S2 a := fun a q => by
    rcases q with (q | q) | ⟨j, q⟩
    · exact .inl (.inl (.inl q))
    · exact .inl (.inr q)
    · rcases sb j a q with ⟨k, _, _, m⟩ | ⟨h, m⟩
      · exact .inr ⟨k, m⟩
      · exact .inl (.inl (.inr ⟨j, h, m⟩))
  have notSeg : ∀ a, (¬ bl (pl B0 s1) S1 a ∨ ∃ j, ¬ (owned ρ j = true ∧ ∃ k : Nat, as[k]? = some (Arg.slot j)) ∧ a ∈ S1 j) → ∀ k, a ∉ segS L k := fun a n k m => by
    rcases g.inB m with q | ⟨i, hi, q⟩
    · rcases n with n | ⟨j, _, n⟩
      · exact n (.inl (.inr q))
      · exact e.av j a n (.inr q)
    · rcases n with n | ⟨j, hj, n⟩
      · exact n (.inr ⟨i, q⟩)
      · have ij := e.dj i j a q n
        subst ij
        exact hj ⟨own_of e hr q hi, k, hi⟩
  have keepH : ∀ a o, H1 a = some o → (¬ bl (pl B0 s1) S1 a ∨ ∃ j, ¬ (owned ρ j = true ∧ ∃ k : Nat, as[k]? = some (Arg.slot j)) ∧ a ∈ S1 j) → H2 a = some o := fun a o q n => t.keep a o q (notSeg a n)
  refine ⟨⟨fun j d h => ?_, fun j => ?_, fun i j a h1 h2 => ?_, fun j a h z => ?_, fun a h => ?_, fun j a h => ?_, by rw [putB_len]; exact e.ln⟩, ⟨fun a o q n => ?_, fun a h => ?_⟩, sub⟩
  · rcases putB_at hps.symm h with ⟨h1, h2⟩ | ⟨ho, k, h1, h2⟩
    · have nu : ¬ (owned ρ j = true ∧ ∃ k : Nat, as[k]? = some (Arg.slot j)) := fun ⟨q1, k, q2⟩ => by rw [h2 k q2] at q1; cases q1
      obtain ⟨v, hv, r⟩ := e.sl j d h1
      refine ⟨v, hv, ?_⟩
      rw [sbn nu]
      refine r.mono (fun a o q n => keepH a o q (n.imp id fun n => ⟨j, nu, n⟩)) fun a o q n z => ?_
      have n1 := notSeg a (.inl n)
      rcases z with (z | z) | ⟨i, z⟩
      · exact n (.inl (.inl z))
      · exact t.nots q n1 z
      · rcases sb i a z with ⟨k, _, _, m⟩ | ⟨_, m⟩
        · exact t.not q n1 k m
        · exact n (.inr ⟨i, m⟩)
    · obtain ⟨v, hv, r⟩ := e2.sl k d h2
      have hv' : vs[k]? = some v := by
        rw [List.getElem?_map] at hv
        cases q : vs[k]? with
        | none => rw [q] at hv; cases hv
        | some v' => rw [q] at hv; simpa using hv
      refine ⟨v, g.at_ k j v h1 hv', ?_⟩
      rw [sbk ho h1]
      exact r.mono (fun _ _ q _ => q) fun a _ _ n z => n (sub a z)
  · by_cases h : owned ρ j = true ∧ ∃ k : Nat, as[k]? = some (Arg.slot j)
    · obtain ⟨ho, k, hk⟩ := h
      rw [sbk ho hk]
      exact e2.nd k
    · rw [sbn h]
      exact e.nd j
  · rcases sb i a h1 with ⟨k, hk1, hk2, m1⟩ | ⟨n1, m1⟩ <;> rcases sb j a h2 with ⟨l, hl1, hl2, m2⟩ | ⟨n2, m2⟩
    · have := e2.dj k l a m1 m2
      subst this
      rw [hk2] at hl2
      cases hl2
      rfl
    · exact absurd (Or.inl (Or.inr ⟨j, n2, m2⟩)) (e2.av k a m1)
    · exact absurd (Or.inl (Or.inr ⟨i, n1, m1⟩)) (e2.av l a m2)
    · exact e.dj i j a m1 m2
  · rcases sb j a h with ⟨k, _, _, m⟩ | ⟨n1, m⟩
    · exact e2.av k a m (z.imp .inl id)
    · rcases z with z | z
      · exact e.av j a m (.inl z)
      · exact a2 a z (.inr ⟨j, n1, m⟩)
  · exact e2.tb a (h.imp .inl id)
  · rcases sb j a h with ⟨k, _, _, m⟩ | ⟨n1, m⟩
    · exact e2.ts k a m
    · obtain ⟨o', h'⟩ := e.ts j a m
      exact ⟨o', keepH a o' h' (.inr ⟨j, n1, m⟩)⟩
  · have q1 := t0.keep a o q n
    have n1 := t0.not q n
    have n2 := t0.nots q n
    refine t.keep a o q1 fun k m => ?_
    rcases g.inB m with m | ⟨i, _, m⟩
    · exact n2 m
    · exact n1 i m
  · have h1 : (∃ j, a ∈ S1 j) ∨ ((∃ k, a ∈ S2 k) ∨ a ∈ s2) := by
      rcases h with ⟨j, h⟩ | h
      · rcases sb j a h with ⟨k, _, _, m⟩ | ⟨_, m⟩
        · exact .inr (.inl ⟨k, m⟩)
        · exact .inl ⟨j, m⟩
      · exact .inr (.inr h)
    rcases h1 with h1 | h1
    · exact t0.own a (.inl h1)
    · rcases t.own a h1 with q | ⟨k, q⟩
      · cases e0 : H0 a with
        | none => exact .inl rfl
        | some o' =>
          refine .inr ?_
          by_cases m : ∃ i, a ∈ S0 i
          · exact m
          · rw [t0.keep a o' e0 fun i z => m ⟨i, z⟩] at q
            cases q
      · rcases g.inB q with m | ⟨i, _, m⟩
        · exact t0.own a (.inr m)
        · exact t0.own a (.inl ⟨i, m⟩)
end
def vFinC (f : FnV) (q : Env × List Arg) : Out (Env × D) := match resAll q.1 q.2 with
  | some ds => if once q.1 q.2 then (match f ds with
    | .ok (ds', r) => if ds'.length = q.2.length then .ok (putB q.1 q.1 q.2 (ds'.map some), r) else .bad
    | .exc ps x => if ps.length = q.2.length then .exc (putB q.1 q.1 q.2 ps) x else .bad
    | .bad => .bad) else .bad
  | none => .bad
def vCall (f : FnV) (A : VL) : VE := fun ρ => (A ρ).bind (vFinC f)
theorem ev_callG {f : FnV} {u : TA} {A : VL} {t : TE} (h : AL K E u A) (ht : ∀ σ H Q, u σ H (fun vs H1 => spV K f vs H1 Q (E σ)) → t σ H Q) : EV K E t (vCall f A) := fun B0 σ H ρ S Q e p => by
  refine ht σ H Q (h B0 σ H ρ S _ e ?_)
  unfold vCall at p
  cases hA : A ρ with
  | bad => rw [hA] at p; exact p.elim
  | exc ρ' x => rw [hA] at p; exact p
  | ok q =>
    obtain ⟨ρ1, as⟩ := q
    rw [hA] at p
    rw [Out.bind_ok] at p
    unfold vFinC at p
    intro vs H1 S1 s1 e1 hs n1 a1 t1
    dsimp only at p
    cases hr : resAll ρ1 as with
    | none => rw [hr] at p; exact p.elim
    | some ds =>
      rw [hr] at p
      dsimp only at p
      by_cases ho : once ρ1 as = true
      · rw [if_pos ho] at p
        obtain ⟨L, g⟩ := hs.segs e1 hr n1
        refine ⟨ds, _, _, enter e1 g ho hr a1, ?_⟩
        cases hf : f ds with
        | bad => rw [hf] at p; exact p.elim
        | exc ps x =>
          rw [hf] at p
          dsimp only at p
          by_cases hl : ps.length = as.length
          · rw [if_pos hl] at p
            intro H2 S2 dd e2 xr t2
            obtain ⟨h1, h2, h3⟩ := leave t1 e1 g ho hr hl (s2 := []) e2.nil (fun _ m => nomatch m) t2
            rw [pl_nil] at h1 h3
            rw [pl_nil] at h3
            exact p H2 _ dd h1 (xr.sub h3) h2
          · rw [if_neg hl] at p
            exact p.elim
        | ok q2 =>
          obtain ⟨ds', r⟩ := q2
          rw [hf] at p
          dsimp only at p
          by_cases hl : ds'.length = as.length
          · rw [if_pos hl] at p
            intro v H2 S2 s2 e2 r2 n2 a2 t2
            obtain ⟨h1, h2, h3⟩ := leave t1 e1 g ho hr (by rw [List.length_map]; exact hl) e2 a2 t2
            exact p v H2 _ s2 h1 (r2.mono (fun _ _ q _ => q) fun a _ _ n z => n (h3 a z)) n2 (fun a m z => a2 a m (.inl z)) h2
          · rw [if_neg hl] at p
            exact p.elim
      · rw [if_neg ho] at p
        exact p.elim
theorem ev_callS {f : FnV} {u : TA} {A : VL} (h : AL K E u A) : EV K E (tCallS (spV K f) E u) (vCall f A) := ev_callG h fun _ _ _ q => q
end EV

set_option Elab.async false
set_option linter.all false
set_option maxRecDepth 100000
set_option maxHeartbeats 1000000
/-! EVb: a def's body and its promise. -/
namespace EV
open PySem L2
variable {K : PySem.W.Frag} {B B' B0 B1 : Bs} {H H1 H2 H' : Hp} {σ σ' σ1 : St} {ρ ρ1 ρ2 ρ' : Env} {S S1 S2 S' : Nat → List Addr} {s s1 s2 : List Addr} {Q : VK}
/-- the parameters behind the run: what was frozen is as it was -/
def outs (W : List Nat) (ρ' : Env) : Nat → List D → Option (List D)
  | _, [] => some []
  | k, d :: ds => match (if d.fz then some d else if k ∈ W then none else (ρ'[k]?).join), outs W ρ' (k + 1) ds with
    | some d', some ds' => some (d' :: ds')
    | _, _ => none
def begin_ (n N : Nat) (ds : List D) : Env := ds.map some ++ List.replicate (N - n) none
def fin (W : List Nat) (ds : List D) (ρ' : Env) (r : D) : Out (List D × D) := match outs W ρ' 0 ds with
  | some ps => .ok (ps, r)
  | none => .bad
def fnOf (n N : Nat) (W : List Nat) (F : VS) : FnV := fun ds => if ds.length = n then (match F (begin_ n N ds) with
    | .ok (ρ', .rt r) => fin W ds ρ' r
    | .ok (ρ', .nx) => fin W ds ρ' .non
    | .ok _ => .bad
    | .exc ρ' x => match outs W ρ' 0 ds with
      | some ps => .exc (ps.map some) x
      | none => .bad
    | .bad => .bad) else .bad
theorem outs_get {W : List Nat} {ρ' : Env} : ∀ {ds ps : List D} {k0 k : Nat} {d' : D}, outs W ρ' k0 ds = some ps → ps[k]? = some d' → ∃ d, ds[k]? = some d ∧ ((d.fz = true ∧ d' = d) ∨ (d.fz = false ∧ k0 + k ∉ W ∧ ρ'[k0 + k]? = some (some d')))
  | [], ps, k0, k, d', h, e => by cases h; simp at e
  | d :: ds, ps, k0, k, d', h, e => by
    unfold outs at h
    cases h1 : (if d.fz then some d else if k0 ∈ W then none else (ρ'[k0]?).join) with
    | none => rw [h1] at h; cases h
    | some x =>
      cases h2 : outs W ρ' (k0 + 1) ds with
      | none => rw [h1, h2] at h; cases h
      | some ps' =>
        rw [h1, h2] at h
        cases h
        cases k with
        | zero =>
          simp at e
          subst e
          refine ⟨d, rfl, ?_⟩
          cases hf : d.fz with
          | true =>
            rw [hf] at h1
            simp at h1
            exact .inl ⟨rfl, h1.symm⟩
          | false =>
            rw [hf] at h1
            simp only [Bool.false_eq_true, if_false] at h1
            split at h1
            · cases h1
            · rename_i hw
              exact .inr ⟨rfl, hw, join_some.mp h1⟩
        | succ k =>
          obtain ⟨d0, h3, h4⟩ := outs_get (k := k) h2 (by simpa using e)
          refine ⟨d0, by simpa using h3, ?_⟩
          rw [show k0 + (k + 1) = k0 + 1 + k by omega]
          exact h4
theorem outs_len {W : List Nat} {ρ' : Env} : ∀ {ds ps : List D} {k0 : Nat}, outs W ρ' k0 ds = some ps → ps.length = ds.length
  | [], ps, k0, h => by cases h; rfl
  | d :: ds, ps, k0, h => by
    unfold outs at h
    cases h1 : (if d.fz then some d else if k0 ∈ W then none else (ρ'[k0]?).join) with
    | none => rw [h1] at h; cases h
    | some x =>
      cases h2 : outs W ρ' (k0 + 1) ds with
      | none => rw [h1, h2] at h; cases h
      | some ps' =>
        rw [h1, h2] at h
        cases h
        exact congrArg (· + 1) (outs_len h2)
/-- what the parameters own behind the run -/
def sOut (ds : List D) (S' : Nat → List Addr) : Nat → List Addr := fun k => match ds[k]? with
  | some d => if d.fz then [] else S' k
  | none => []
theorem sOut_mem {ds : List D} {k : Nat} {a : Addr} (h : a ∈ sOut ds S' k) : a ∈ S' k := by
  unfold sOut at h
  split at h
  · split at h
    · cases h
    · exact h
  · cases h
theorem exit_ {W : List Nat} {vs : List V} {ds ps : List D} (e0 : EnvR K B0 H (vs.map some) (ds.map some) S) (hσ : ∀ (k : Nat) v, vs[k]? = some v → σ[k]? = some (some v)) (e : EnvR K (pl B0 s) H' σ' ρ' S') (t : Step H S H' S' s) (f : Fr W σ σ') (ho : outs W ρ' 0 ds = some ps) :
    EnvR K (pl B0 s) H' (vs.map some) (ps.map some) (sOut ds S') ∧ Step H S H' (sOut ds S') s ∧ ∀ a, bl (pl B0 s) (sOut ds S') a → bl (pl B0 s) S' a := by
  have sub : ∀ a, bl (pl B0 s) (sOut ds S') a → bl (pl B0 s) S' a := fun a q => q.imp id fun ⟨k, m⟩ => ⟨k, sOut_mem m⟩
  refine ⟨⟨fun k d' h => ?_, fun k => ?_, fun k l a h1 h2 => e.dj k l a (sOut_mem h1) (sOut_mem h2), fun k a h => e.av k a (sOut_mem h), e.tb, fun k a h => e.ts k a (sOut_mem h), ?_⟩, ⟨t.keep, fun a h => t.own a (h.imp (fun ⟨k, m⟩ => ⟨k, sOut_mem m⟩) id)⟩, sub⟩
  · have hd : ps[k]? = some d' := by
      rw [List.getElem?_map] at h
      cases q : ps[k]? with
      | none => rw [q] at h; cases h
      | some d => rw [q] at h; simpa using h
    obtain ⟨d, h1, h2⟩ := outs_get ho hd
    obtain ⟨v, hv, r⟩ := e0.sl k d (by rw [List.getElem?_map, h1]; rfl)
    have hv' : vs[k]? = some v := by
      rw [List.getElem?_map] at hv
      cases q : vs[k]? with
      | none => rw [q] at hv; cases hv
      | some v' => rw [q] at hv; simpa using hv
    rcases h2 with ⟨hf, rfl⟩ | ⟨hf, hw, hk⟩
    · refine ⟨v, hv, ?_⟩
      have z := r.nil hf
      rw [z] at r
      rw [show sOut ds S' k = [] by unfold sOut; rw [h1]; simp [hf]]
      refine r.mono (fun a o q n => t.keep a o q fun i m => n.elim (fun n => n (.inr ⟨i, m⟩)) fun n => nomatch n) fun a o q n z => ?_
      have n1 : ∀ i, a ∉ S i := fun i m => n (.inr ⟨i, m⟩)
      rcases sub a z with (z | z) | ⟨i, z⟩
      · exact n (.inl z)
      · exact t.nots q n1 z
      · exact t.not q n1 i z
    · rw [Nat.zero_add] at hw hk
      obtain ⟨v', h3, r'⟩ := e.sl k d' hk
      rw [f k hw, hσ k v hv'] at h3
      cases h3
      refine ⟨v, hv, ?_⟩
      rw [show sOut ds S' k = S' k by unfold sOut; rw [h1]; simp [hf]]
      exact r'.mono (fun _ _ q _ => q) fun a _ _ n z => n (sub a z)
  · unfold sOut
    split
    · split
      · exact List.nodup_nil
      · exact e.nd k
    · exact List.nodup_nil
  · have := e0.ln
    rw [List.length_map, List.length_map] at this ⊢
    rw [outs_len ho]
    exact this
theorem fn_body {N : List Str} {n : Nat} {W : List Nat} {t : TS} {F : VS} {vs : List V} {E : XK} (hb : SV K (fun _ => E) W t F) (hn : n ≤ N.length) (h : spV K (fnOf n N.length W F) vs H Q E) : t { nx := fun _ H' => Q .non H', rt := Q } (L2.start N vs) H := by
  obtain ⟨ds, B0, S, e, p⟩ := h
  unfold fnOf at p
  by_cases hl : ds.length = n
  · rw [if_pos hl] at p
    have hv : vs.length = n := by
      have := e.ln
      rw [List.length_map, List.length_map] at this
      omega
    have hσ : ∀ (k : Nat) v, vs[k]? = some v → (L2.start N vs)[k]? = some (some v) := fun k v h => by
      unfold L2.start
      rw [List.getElem?_append_left (by rw [List.length_map]; exact (List.getElem?_eq_some_iff.mp h).1), List.getElem?_map, h]
      rfl
    have e0 : EnvR K B0 H (L2.start N vs) (begin_ n N.length ds) S := by
      refine ⟨fun k d h => ?_, e.nd, e.dj, e.av, e.tb, e.ts, ?_⟩
      · unfold begin_ at h
        by_cases hk : k < ds.length
        · rw [List.getElem?_append_left (by rw [List.length_map]; exact hk)] at h
          obtain ⟨v, h1, r⟩ := e.sl k d h
          refine ⟨v, ?_, r⟩
          have : vs[k]? = some v := by
            rw [List.getElem?_map] at h1
            cases q : vs[k]? with
            | none => rw [q] at h1; cases h1
            | some v' => rw [q] at h1; simpa using h1
          exact hσ k v this
        · rw [List.getElem?_append_right (by rw [List.length_map]; omega)] at h
          have := List.mem_of_getElem? h
          rw [List.mem_replicate] at this
          cases this.2
      · unfold L2.start begin_
        simp [hl, hv]
    refine hb B0 (L2.start N vs) H _ S _ e0 ?_
    cases hF : F (begin_ n N.length ds) with
    | bad => rw [hF] at p; exact p.elim
    | exc ρ' x =>
      rw [hF] at p
      dsimp only at p
      cases ho : outs W ρ' 0 ds with
      | none => rw [ho] at p; exact p.elim
      | some ps =>
        rw [ho] at p
        intro σ' H' S' dd e' xr t' f'
        obtain ⟨h1, h2, h3⟩ := exit_ (s := []) e hσ e'.nil t' f' ho
        rw [pl_nil] at h1 h3
        exact p H' _ dd h1 (xr.sub h3) h2
    | ok q =>
      obtain ⟨ρ', c⟩ := q
      rw [hF] at p
      cases c with
      | bk => exact p.elim
      | ct => exact p.elim
      | nx =>
        dsimp only at p
        unfold fin at p
        cases ho : outs W ρ' 0 ds with
        | none => rw [ho] at p; exact p.elim
        | some ps =>
          rw [ho] at p
          intro σ' H' S' e' t' f'
          obtain ⟨h1, h2, h3⟩ := exit_ (s := []) e hσ e'.nil t' f' ho
          exact p .non H' _ [] h1 .non List.nodup_nil (fun _ m => nomatch m) h2
      | rt r =>
        dsimp only at p
        unfold fin at p
        cases ho : outs W ρ' 0 ds with
        | none => rw [ho] at p; exact p.elim
        | some ps =>
          rw [ho] at p
          intro v σ' H' S' s' e' r' n' a' t' f'
          obtain ⟨h1, h2, h3⟩ := exit_ e hσ e' t' f' ho
          exact p v H' _ s' h1 (r'.mono (fun _ _ q _ => q) fun a _ _ n z => n (h3 a z)) n' a' h2
  · rw [if_neg hl] at p
    exact p.elim
theorem spV_len {n N : Nat} {W : List Nat} {F : VS} {vs : List V} {E : XK} (h : spV K (fnOf n N W F) vs H Q E) : vs.length = n := by
  obtain ⟨ds, B0, S, e, p⟩ := h
  unfold fnOf at p
  by_cases hl : ds.length = n
  · have := e.ln
    rw [List.length_map, List.length_map] at this
    omega
  · rw [if_neg hl] at p
    exact p.elim
end EV

set_option Elab.async false
set_option linter.all false
set_option maxRecDepth 100000
set_option maxHeartbeats 1000000
/-! EVc: owned lists changed in place. -/
namespace EV
open PySem L2
variable {K : PySem.W.Frag} {B B' B0 B1 : Bs} {H H1 H2 H' : Hp} {σ σ' σ1 : St} {ρ ρ1 ρ2 ρ' : Env} {S S1 S2 S' : Nat → List Addr} {s s1 s2 : List Addr} {E : St → XK} {Q : VK}
theorem R.upd {v : V} {d : D} {a : Addr} {o : HO} {T : List Addr} (r : R K B H v d T) (hB : B a) (hT : a ∉ T) : R K B (L2.upd H a o) v d T :=
  r.mono (fun b u e n => by
    have : b ≠ a := fun z => by subst z; exact n.elim (fun n => n hB) hT
    rw [upd_ne this]
    exact e) fun _ _ _ n => n
theorem Rs.upd {vs : List V} {ds : List D} {a : Addr} {o : HO} {T : List Addr} (r : Rs K B H vs ds T) (hB : B a) (hT : a ∉ T) : Rs K B (L2.upd H a o) vs ds T :=
  r.mono (fun b u e n => by
    have : b ≠ a := fun z => by subst z; exact n.elim (fun n => n hB) hT
    rw [upd_ne this]
    exact e) fun _ _ _ n => n
/-- an owned list of frozen things, and how it is written -/
theorem EnvR.mut (e : EnvR K B0 H σ ρ S) {i : Nat} {xs : List D} (hi : ρ[i]? = some (some (.lst true xs))) (hf : fzs xs = true) : ∃ a vs, σ[i]? = some (some (.ref a)) ∧ bl B0 S a ∧ H a = some (.lst vs) ∧ Rs K (bl B0 S) H vs xs [] ∧
    ∀ vs' xs', Rs K (bl B0 S) H vs' xs' [] → EnvR K B0 (L2.upd H a (.lst vs')) σ (ρ.set i (some (.lst true xs'))) S ∧ Step H S (L2.upd H a (.lst vs')) S [] := by
  obtain ⟨v, hv, r⟩ := e.sl i _ hi
  generalize hS : S i = Si at r
  cases r with
  | lstO h t =>
    rename_i a vs T
    have hT := t.nilS hf
    subst hT
    have ia : a ∈ S i := by rw [hS]; simp
    have ba : bl B0 S a := .inr ⟨i, ia⟩
    refine ⟨a, vs, hv, ba, h, t, fun vs' xs' t' => ⟨⟨fun j d hd => ?_, e.nd, e.dj, e.av, fun b hb => ?_, fun j b hb => ?_, by rw [List.length_set]; exact e.ln⟩, ⟨fun b o q n => ?_, fun b q => q.elim .inr fun m => nomatch m⟩⟩⟩
    · by_cases hj : j = i
      · subst hj
        rw [List.getElem?_set_self (List.getElem?_eq_some_iff.mp hi).1] at hd
        cases hd
        refine ⟨_, hv, ?_⟩
        rw [hS]
        exact .lstO upd_same (t'.upd ba (fun m => nomatch m))
      · rw [List.getElem?_set_ne (Ne.symm hj)] at hd
        obtain ⟨w, hw, r'⟩ := e.sl j d hd
        exact ⟨w, hw, r'.upd ba fun m => hj (e.dj j i a m ia)⟩
    · by_cases hb' : b = a
      · subst hb'; exact ⟨⟨.lst _, trivial⟩, upd_same⟩
      · rw [upd_ne hb']; exact e.tb b hb
    · by_cases hb' : b = a
      · subst hb'; exact ⟨⟨.lst _, trivial⟩, upd_same⟩
      · rw [upd_ne hb']; exact e.ts j b hb
    · have : b ≠ a := fun z => by subst z; exact n i ia
      rw [upd_ne this]
      exact q
/-- a method of an owned list: its items, its arguments; the new items, the answer -/
def OPM (K : PySem.W.Frag) (r : V → List V → Hp → VK → Prop) (f : List D → List D → Option (List D × D)) : Prop := ∀ B H a vs ws xs ds xs' d Q, H a = some (.lst vs) → Rs K B H vs xs [] → Rp K B H ws ds → f xs ds = some (xs', d) →
  (∀ vs' v, Rs K B H vs' xs' [] → R K B H v d [] → Q v (L2.upd H a (.lst vs'))) → r (.ref a) ws H Q
def vFinM (i : Nat) (f : List D → List D → Option (List D × D)) (q : Env × List Arg) : Out (Env × D) := match (q.1[i]?).join, resAll q.1 q.2 with
  | some (.lst true xs), some ds => if fzs xs then (match f xs ds with
    | some (xs', d) => .ok (q.1.set i (some (.lst true xs')), d)
    | none => .bad) else .bad
  | _, _ => .bad
def vMeth (i : Nat) (f : List D → List D → Option (List D × D)) (A : VL) : VE := fun ρ => match (ρ[i]?).join with
  | some (.lst _ _) => (A ρ).bind (vFinM i f)
  | _ => .bad
theorem ev_meth {i : Nat} {r : V → List V → Hp → VK → Prop} {f : List D → List D → Option (List D × D)} {u : TA} {A : VL} (h : AL K E u A) (o : OPM K r f) : EV K E (tBM K "list" r (tVar i) u) (vMeth i f A) := fun B0 σ H ρ S Q e p => by
  unfold vMeth at p
  cases hj : (ρ[i]?).join with
  | none => rw [hj] at p; exact p.elim
  | some d0 =>
    rw [hj] at p
    cases d0 with
    | lst o0 xs0 =>
      dsimp only at p
      obtain ⟨v, hv, r0⟩ := e.sl i _ (join_some.mp hj)
      have ty : tyV K "list" v H := by
        generalize S i = Si at r0
        cases r0 with
        | lstF h _ _ => exact .inl ⟨rfl, _, SqL.of h⟩
        | lstO h _ => exact .inl ⟨rfl, _, SqL.of h⟩
      refine ⟨v, hv, ty, h B0 σ H ρ S _ e ?_⟩
      cases hA : A ρ with
      | bad => rw [hA] at p; exact p.elim
      | exc ρ' x => rw [hA] at p; exact p
      | ok q =>
        obtain ⟨ρ1, as⟩ := q
        rw [hA] at p
        rw [Out.bind_ok] at p
        unfold vFinM at p
        intro ws H1 S1 s1 e1 hs n1 a1 t1
        dsimp only at p
        cases hj1 : (ρ1[i]?).join with
        | none => rw [hj1] at p; exact p.elim
        | some d1 =>
          rw [hj1] at p
          cases hr : resAll ρ1 as with
          | none =>
            rw [hr] at p
            split at p
            · rename_i h1 h2; cases h2
            · exact p.elim
          | some ds =>
            rw [hr] at p
            split at p
            · rename_i xs ds' h1 h2
              cases h1
              cases h2
              split at p
              · rename_i hf
                split at p
                · rename_i xs' d hF
                  obtain ⟨a, vs, hσ, ba, ha, t, k⟩ := e1.mut (join_some.mp hj1) hf
                  rw [hv] at hσ
                  cases hσ
                  refine o _ H1 a vs ws xs ds xs' d Q ha t (hs.rp e1 hr) hF fun vs' v' t' rv => ?_
                  obtain ⟨e2, t2⟩ := k vs' xs' t'
                  have e3 := e2.less
                  refine p v' _ S1 [] e3.nil ?_ List.nodup_nil (fun _ m => nomatch m) ((t1.trans t2).sub fun _ m => nomatch m)
                  rw [pl_nil]
                  exact (rv.upd ba fun m => nomatch m).mono (fun _ _ q _ => q) fun a _ _ n z => n (z.imp .inl id)
                · exact p.elim
              · exact p.elim
            · exact p.elim
    | _ => exact p.elim
def mAppend : List D → List D → Option (List D × D)
  | xs, [d] => if d.fz && decide (xs.length < LIM) then some (xs ++ [d], .non) else none
  | _, _ => none
theorem o_append : OPM K rAppend mAppend := by
  intro B H a vs ws xs ds xs' d Q ha t rp hf k
  match ds, rp, hf with
  | [y], .cons r .nil, e =>
    simp only [mAppend] at e
    split at e
    · rename_i c
      cases e
      obtain ⟨c1, c2⟩ := Bool.and_eq_true_iff.mp c
      have z := r.nil c1
      subst z
      refine ⟨a, vs, _, rfl, rfl, ha, ?_, k _ _ (t.app (Rs.cons r .nil)) .non⟩
      rw [t.len]
      exact Nat.lt_of_lt_of_le (of_decide_eq_true c2) lim
    · cases e
def mPopAt : List D → List D → Option (List D × D)
  | xs, [.int i] => if 0 ≤ i ∧ i < xs.length ∧ i < 1000000000 then (match xs[i.toNat]? with
    | some d => some (xs.eraseIdx i.toNat, d)
    | none => none) else none
  | _, _ => none
theorem Rs.erase : ∀ {vs : List V} {ds : List D} (n : Nat), Rs K B H vs ds [] → Rs K B H (vs.eraseIdx n) (ds.eraseIdx n) []
  | [], _, n, h => by cases h; simpa using Rs.nil
  | v :: vs, ds, 0, h => by
    obtain ⟨d0, ds', rfl, r, t⟩ := h.cons_inv
    exact t
  | v :: vs, ds, n + 1, h => by
    obtain ⟨d0, ds', rfl, r, t⟩ := h.cons_inv
    exact Rs.cons r (t.erase n)
theorem o_popAt : OPM K rPopAt mPopAt := by
  intro B H a vs ws xs ds xs' d Q ha t rp hf k
  match ds, rp, hf with
  | [.int i], .cons .int .nil, e =>
    simp only [mPopAt] at e
    split at e
    · rename_i c
      split at e
      · rename_i y hy
        cases e
        obtain ⟨v, hv, rv⟩ := t.get hy
        have l := t.len
        have hi : i.toNat < vs.length := by omega
        refine ⟨a, vs, i, i.toNat, v, rfl, rfl, ha, by omega, ?_, ?_, hv, k _ _ (t.erase _) rv⟩
        · omega
        · unfold seqIndex?
          have h0 : ¬ i < 0 := by omega
          have h1 : (0 : Int) ≤ i ∧ i < (vs.length : Int) := by omega
          simp [h0, h1.1, h1.2]
      · cases e
    · cases e
def mPop : List D → List D → Option (List D × D)
  | xs, [] => match xs[xs.length - 1]? with
    | some d => some (xs.dropLast, d)
    | none => none
  | _, _ => none
theorem Rs.dropLast {vs : List V} {ds : List D} (t : Rs K B H vs ds []) : Rs K B H vs.dropLast ds.dropLast [] := by
  rw [List.dropLast_eq_take, List.dropLast_eq_take, t.len]
  exact t.take _
theorem o_pop : OPM K rPop mPop := by
  intro B H a vs ws xs ds xs' d Q ha t rp hf k
  match ds, rp, hf with
  | [], .nil, e =>
    simp only [mPop] at e
    split at e
    · rename_i y hy
      cases e
      obtain ⟨v, hv, rv⟩ := t.get hy
      rw [← t.len] at hv
      exact ⟨a, vs, v, rfl, rfl, ha, hv, k _ _ t.dropLast rv⟩
    · cases e
/-- .. without arguments -/
theorem ev_meth0 {i : Nat} {r : V → List V → Hp → VK → Prop} {f : List D → List D → Option (List D × D)} (o : OPM K r f) : EV K E (tBM0 K "list" r (tVar i)) (vMeth i f vNil) := fun B0 σ H ρ S Q e p => ev_meth (u := tNil) al_nil o B0 σ H ρ S Q e p
/-- x[k] = e, x an owned list of a slot -/
def vFinS (i : Nat) (d : D) (q : Env × List Arg) : Out (Env × Ctl) := match (q.1[i]?).join, resAll q.1 q.2 with
  | some (.lst true xs), some [.int k] => if fzs xs then (match ixN xs.length k with
    | some j => .ok (q.1.set i (some (.lst true (xs.set j d))), .nx)
    | none => .bad) else .bad
  | _, _ => .bad
def vStore (i : Nat) (F : VE) (A : VA) : VS := fun ρ => (F ρ).bind fun q => match (q.1[i]?).join with
  | some _ => (vCons A vNil q.1).bind (vFinS i q.2.ice)
  | none => .bad
theorem Rs.set : ∀ {vs : List V} {ds : List D} {v : V} {d : D} (n : Nat), Rs K B H vs ds [] → R K B H v d [] → Rs K B H (vs.set n v) (ds.set n d) []
  | [], _, _, _, n, h, _ => by cases h; simpa using Rs.nil
  | w :: vs, ds, v, d, 0, h, r => by
    obtain ⟨d0, ds', rfl, _, t⟩ := h.cons_inv
    exact Rs.cons r t
  | w :: vs, ds, v, d, n + 1, h, r => by
    obtain ⟨d0, ds', rfl, r0, t⟩ := h.cons_inv
    exact Rs.cons r0 (t.set n r)
theorem sv_store {i : Nat} {te ti : TE} {F : VE} {A : VA} (h : EV K E te F) (hi : AR K E ti A) : SV K E [] (tAsg te (gSub (tVar i) ti rSetL)) (vStore i F A) := fun B0 σ H ρ S D e p => by
  refine ev_ice h B0 σ H ρ S _ e ?_
  unfold vStore at p
  unfold vIce
  cases hF : F ρ with
  | bad => rw [hF] at p; exact p.elim
  | exc ρ' x =>
    rw [hF] at p
    exact fun H' S' dd e r u => p σ H' S' dd e r u Fr.refl
  | ok q =>
    obtain ⟨ρ1, d⟩ := q
    rw [hF] at p
    rw [Out.bind_ok] at p ⊢
    intro v H1 S1 s1 e1 rv n a t1
    have z := rv.nil d.ice_fz
    subst z
    rw [pl_nil] at e1 rv
    dsimp only at p
    cases hj : (ρ1[i]?).join with
    | none => rw [hj] at p; exact p.elim
    | some d0 =>
      rw [hj] at p
      dsimp only at p
      obtain ⟨o, ho, _⟩ := e1.sl i d0 (join_some.mp hj)
      refine ⟨o, ho, ?_⟩
      refine al_cons hi al_nil B0 σ H1 ρ1 S1 (fun ws H2 => match ws with | [k] => rSetL o k v H2 fun H3 => D.nx σ H3 | _ => False) e1 ?_
      cases hA : vCons A vNil ρ1 with
      | bad => rw [hA] at p; exact p.elim
      | exc ρ' x =>
        rw [hA] at p
        exact fun H' S' dd e r u => p σ H' S' dd e r (t1.trans u) Fr.refl
      | ok q2 =>
        obtain ⟨ρ2, as⟩ := q2
        rw [hA] at p
        rw [Out.bind_ok] at p
        unfold vFinS at p
        intro ws H2 S2 s2 e2 hs n2 a2 t2
        dsimp only at p
        split at p
        · rename_i xs k h1 h2
          split at p
          · rename_i hf
            split at p
            · rename_i j hix
              have rp := hs.rp e2 h2
              have hw := rp.one_int
              subst hw
              obtain ⟨ad, vs, hσ, ba, ha, t, kk⟩ := e2.mut (join_some.mp h1) hf
              rw [ho] at hσ
              cases hσ
              have rv2 : R K (bl (pl B0 s2) S2) H2 v d.ice [] := by
                have := held (B0 := B0) (s := []) (by rw [pl_nil]; exact e1) (by rw [pl_nil]; exact rv) t2
                rw [pl_nil] at this
                exact this
              obtain ⟨e3, t3⟩ := kk _ _ (t.set j rv2)
              refine ⟨ad, vs, k, j, rfl, rfl, ha, by rw [t.len]; exact hix, ?_⟩
              exact p σ _ S2 e3.less ((t1.trans (t2.trans t3)).sub fun _ m => nomatch m) Fr.refl
            · exact p.elim
          · exact p.elim
        · exact p.elim
end EV

set_option Elab.async false
set_option linter.all false
set_option maxRecDepth 100000
set_option maxHeartbeats 1000000
/-! EVd: list comprehensions. -/
namespace EV
open PySem L2
variable {K : PySem.W.Frag} {B B' B0 B1 : Bs} {H H1 H2 H' : Hp} {σ σ' σ1 : St} {ρ ρ1 ρ2 ρ' : Env} {S S1 S2 S' : Nat → List Addr} {s s1 s2 : List Addr} {E : St → XK} {Q : VK}
/-! ### the loop -/
def cLoop (chk : Env → Bool) (turn : D → Env → Out (Env × Option D)) : List D → List D → Env → Out (Env × List D)
  | [], acc, ρ => .ok (ρ, acc)
  | d :: ds, acc, ρ => match turn d ρ with
    | .ok (ρ', y) => if chk ρ' && decide (acc.length < LIM) then cLoop chk turn ds (acc ++ y.toList) ρ' else .bad
    | _ => .bad
def cTurn (vs : List Nat) (G : VG) (T : VT) (F : VE) : D → Env → Out (Env × Option D) := fun d ρ => match G d ρ with
  | some ρ1 => match T ρ1 with
    | .ok (ρ2, true) => match F ρ2 with
      | .ok (ρ3, y) => .ok (wipeE ρ3 vs, some y.ice)
      | _ => .bad
    | .ok (ρ2, false) => .ok (wipeE ρ2 vs, none)
    | _ => .bad
  | none => .bad
def vTrue : VT := fun ρ => .ok (ρ, true)
theorem tv_yes : TV K E tYes vTrue := fun B0 σ H ρ S Q e p => p H S e (Step.refl H S)
def lcR (g : TG) (tt : TT) (te : TE) (vs : List Nat) (σ : St) (A : Addr) (Q : VK) : It → Hp → Prop := fun J H1 => ∃ W : Nat → Nat → Hp → Prop, (∃ m, W 0 m (L2.upd H1 A (.lst []))) ∧ ∀ i m H, W i m H →
  (J.stop i H ∧ Q (.ref A) H) ∨ (J.go i H ∧ ∃ Nx : Hp → Prop, (∀ H', Nx H' → ∃ m', m' < m ∧ W (i + 1) m' H') ∧ ∀ x H', J.yld i H x H' → g x (wipe σ vs) H' fun σ2 H2 => wipe σ2 vs = wipe σ vs ∧ tt σ2 H2 fun b H3 =>
    if b = true then te σ2 H3 fun y H4 => ∃ acc, H4 A = some (.lst acc) ∧ acc.length < sizeLine ∧ Nx (L2.upd H4 A (.lst (acc ++ [y]))) else Nx H3)
/-- from the first heap on: all but A -/
structure StA (A : Addr) (H1 : Hp) (S1 : Nat → List Addr) (H : Hp) (S : Nat → List Addr) : Prop where
  keep : ∀ a o, H1 a = some o → (∀ i, a ∉ S1 i) → H a = some o
  own : ∀ a, (∃ i, a ∈ S i) → H1 a = none ∨ ∃ i, a ∈ S1 i
abbrev E0' : St → XK := fun _ _ _ _ => False
theorem lc_ev {W1 vs : List Nat} {dep : Dep} {J : It} {xs : List D} {Ct : CtT} {g : TG} {G : VG} {tt : TT} {T : VT} {te : TE} {F : VE} {A : Addr} {ys : List D}
    (w : Src K s dep J xs Ct) (ft : Fit s dep (pl B1 [A]) [] (fun a => a = A)) (hg : GV K W1 g G) (ht : TV K E0' tt T) (hF : EV K E0' te F) (hW1 : ∀ j ∈ W1, j ∈ vs) (e : EnvR K B1 H1 σ ρ1 S1) (nA : H1 A = none)
    (c : Ct (pl B1 [A]) (wipe σ vs) (wipeE ρ1 vs) (L2.upd H1 A (.lst [])) (wipeS S1 vs)) (hr : cLoop (chkO dep) (cTurn vs G T F) xs [] (wipeE ρ1 vs) = .ok (ρ', ys))
    (p : ∀ H' S' vacc, EnvR K (pl B1 [A]) H' (wipe σ vs) ρ' S' → H' A = some (.lst vacc) → Rs K (bl (pl B1 [A]) S') H' vacc ys [] → StA A H1 S1 H' S' → Q (.ref A) H') : lcR g tt te vs σ A Q J H1 := by
  have s0 : Same H1 (L2.upd H1 A (.lst [])) := sameN nA
  have fA : ∀ a ∈ [A], H1 a = none := fun a m => by
    have : a = A := by simpa using m
    rw [this]; exact nA
  have eA : EnvR K (pl B1 [A]) (L2.upd H1 A (.lst [])) (wipe σ vs) (wipeE ρ1 vs) (wipeS S1 vs) := (e.grow s0 fA fun a m => by
    have : a = A := by simpa using m
    rw [this]; exact ⟨⟨.lst _, trivial⟩, upd_same⟩).wipe vs
  refine ⟨fun i m H => i ≤ xs.length ∧ m = xs.length - i ∧ ∃ ρ S acc vacc, EnvR K (pl B1 [A]) H (wipe σ vs) ρ S ∧ Ct (pl B1 [A]) (wipe σ vs) ρ H S ∧ H A = some (.lst vacc) ∧ Rs K (bl (pl B1 [A]) S) H vacc acc [] ∧ StA A H1 S1 H S ∧ cLoop (chkO dep) (cTurn vs G T F) (xs.drop i) acc ρ = .ok (ρ', ys),
    ⟨xs.length, Nat.zero_le _, rfl, wipeE ρ1 vs, wipeS S1 vs, [], [], eA, c, upd_same, .nil, ⟨fun a o q n => s0 a o q, fun a ⟨i, m⟩ => .inr ⟨i, (wipeS_mem m).2⟩⟩, hr⟩, ?_⟩
  rintro i m H ⟨hi, rfl, ρ, S, acc, vacc, e1, c1, hA, ra, st, hl⟩
  obtain ⟨stp, go, yl⟩ := w.at_ _ _ ρ H S e1 c1
  by_cases hlt : i < xs.length
  · refine .inr ⟨go i hlt, fun H' => i + 1 ≤ xs.length ∧ ∃ ρ S acc vacc, EnvR K (pl B1 [A]) H' (wipe σ vs) ρ S ∧ Ct (pl B1 [A]) (wipe σ vs) ρ H' S ∧ H' A = some (.lst vacc) ∧ Rs K (bl (pl B1 [A]) S) H' vacc acc [] ∧ StA A H1 S1 H' S ∧ cLoop (chkO dep) (cTurn vs G T F) (xs.drop (i + 1)) acc ρ = .ok (ρ', ys), fun H' ⟨h1, h2⟩ => ⟨xs.length - (i + 1), by omega, h1, rfl, h2⟩, fun x H0 y => ?_⟩
    obtain ⟨m0, rv⟩ := yl i x H0 xs[i] (List.getElem?_eq_getElem hlt) y
    have e0 : EnvR K (pl B1 [A]) H0 (wipe σ vs) ρ S := (e1.grow (s := []) m0 (fun _ m => nomatch m) fun _ m => nomatch m).less
    have t0 : Step H S H0 S [] := Step.grow m0 fun _ m => nomatch m
    have hd : xs.drop i = xs[i] :: xs.drop (i + 1) := List.drop_eq_getElem_cons hlt
    rw [hd] at hl
    have fd : (xs[i]).fz = true := fzs_all.mp w.fz _ (List.getElem_mem hlt)
    unfold cLoop at hl
    generalize hq : cTurn vs G T F xs[i] ρ = oq at hl
    unfold cTurn at hq
    cases hG : G xs[i] ρ with
    | none => rw [hG] at hq; subst hq; cases hl
    | some ρ2 =>
      rw [hG] at hq
      dsimp only at hq
      refine hg _ _ H0 ρ S x xs[i] ρ2 _ e0 rv fd hG fun σ2 S2 e2 t2' f2 l2 m2 => ?_
      have t2 : Step H S H0 S2 [] := t0.trans t2'
      have hlen : σ2.length = σ.length := m2.trans (wipe_length _ _)
      have hw : wipe σ2 vs = wipe σ vs := wipe_eq hlen (f2.mono hW1)
      refine ⟨hw, ?_⟩
      have bA : ∀ {S' : Nat → List Addr}, bl (pl B1 [A]) S' A := .inl (.inr (by simp))
      -- the end of a turn: from a heap H5 in which A may have grown
      have fin : ∀ {H5 : Hp} {ρ5 : Env} {S5 : Nat → List Addr} {acc' : List D} {vacc' : List V}, EnvR K (pl B1 [A]) H5 σ2 ρ5 S5 → StepX (fun a => a = A) H S H5 S5 → H5 A = some (.lst vacc') → Rs K (bl (pl B1 [A]) S5) H5 vacc' acc' [] → chkO dep (wipeE ρ5 vs) = true →
          cLoop (chkO dep) (cTurn vs G T F) (xs.drop (i + 1)) acc' (wipeE ρ5 vs) = .ok (ρ', ys) → i + 1 ≤ xs.length ∧ ∃ ρ S acc vacc, EnvR K (pl B1 [A]) H5 (wipe σ vs) ρ S ∧ Ct (pl B1 [A]) (wipe σ vs) ρ H5 S ∧ H5 A = some (.lst vacc) ∧ Rs K (bl (pl B1 [A]) S) H5 vacc acc [] ∧ StA A H1 S1 H5 S ∧ cLoop (chkO dep) (cTurn vs G T F) (xs.drop (i + 1)) acc ρ = .ok (ρ', ys) := fun {H5 ρ5 S5 acc' vacc'} e5 t5 hA5 ra5 hc hl5 => by
        have e6 := e5.wipe vs
        rw [hw] at e6
        refine ⟨hlt, wipeE ρ5 vs, wipeS S5 vs, acc', vacc', e6, w.keep _ _ _ _ ρ H S _ (wipeE ρ5 vs) H5 (wipeS S5 vs) ft c1 e1 e6 ⟨t5.keep, fun a j m => t5.own a j (wipeS_mem m).2⟩ Fr.refl hc, hA5, ra5.mono (fun _ _ q _ => q) fun a _ _ n z => n (z.imp id fun ⟨j, m⟩ => ⟨j, (wipeS_mem m).2⟩), ⟨fun a o q n => ?_, fun a ⟨j, m⟩ => ?_⟩, hl5⟩
        · have q1 := st.keep a o q n
          refine t5.keep a o q1 (fun j m => ?_) fun z => ?_
          · rcases st.own a ⟨j, m⟩ with z | ⟨j', z⟩
            · rw [q] at z; cases z
            · exact n j' z
          · subst z
            rw [nA] at q
            cases q
        · rcases t5.own a j (wipeS_mem m).2 with z | ⟨j', z⟩
          · cases q : H1 a with
            | none => exact .inl rfl
            | some o =>
              refine .inr ?_
              by_cases mm : ∃ i, a ∈ S1 i
              · exact mm
              · rw [st.keep a o q fun i z => mm ⟨i, z⟩] at z
                cases z
          · exact st.own a ⟨j', z⟩
      cases hT : T ρ2 with
      | bad => rw [hT] at hq; subst hq; cases hl
      | exc => rw [hT] at hq; subst hq; cases hl
      | ok qT =>
        obtain ⟨ρ3, b⟩ := qT
        rw [hT] at hq
        refine ht _ σ2 H0 ρ2 S2 _ e2 ?_
        rw [hT]
        intro H3 S3 e3 t3
        have t23 : Step H S H3 S3 [] := t2.trans t3
        have hA3 : H3 A = some (.lst vacc) := t23.keep A _ hA fun j m => e1.av j A m (.inr (by simp))
        have ra3 : Rs K (bl (pl B1 [A]) S3) H3 vacc acc [] := ra.mono (fun a o q n => t23.keep a o q fun j m => n.elim (fun n => n (.inr ⟨j, m⟩)) fun n => nomatch n) fun a o q n z => z.elim (fun z => n (.inl z)) fun ⟨j, z⟩ => t23.not q (fun j m => n (.inr ⟨j, m⟩)) j z
        cases b with
        | false =>
          dsimp only at hq
          subst hq
          dsimp only at hl
          split at hl
          · rename_i hc
            obtain ⟨hc1, hc2⟩ := Bool.and_eq_true_iff.mp hc
            refine fin e3 t23.x hA3 ra3 hc1 ?_
            simpa using hl
          · cases hl
        | true =>
          dsimp only at hq
          cases hFr : F ρ3 with
          | bad => rw [hFr] at hq; subst hq; cases hl
          | exc => rw [hFr] at hq; subst hq; cases hl
          | ok qF =>
            obtain ⟨ρ4, y0⟩ := qF
            rw [hFr] at hq
            dsimp only at hq
            subst hq
            dsimp only at hl
            split at hl
            · rename_i hc
              obtain ⟨hc1, hc2⟩ := Bool.and_eq_true_iff.mp hc
              refine ev_ice hF _ σ2 H3 ρ3 S3 _ e3 ?_
              unfold vIce
              rw [hFr]
              intro v4 H4 S4 s4 e4 r4 n4 a4 t4
              have z := r4.nil y0.ice_fz
              subst z
              rw [pl_nil] at e4 r4
              have t34 : Step H S H4 S4 [] := t23.trans t4
              have hA4 : H4 A = some (.lst vacc) := t34.keep A _ hA fun j m => e1.av j A m (.inr (by simp))
              have ra4 : Rs K (bl (pl B1 [A]) S4) H4 vacc acc [] := ra.mono (fun a o q n => t34.keep a o q fun j m => n.elim (fun n => n (.inr ⟨j, m⟩)) fun n => nomatch n) fun a o q n z => z.elim (fun z => n (.inl z)) fun ⟨j, z⟩ => t34.not q (fun j m => n (.inr ⟨j, m⟩)) j z
              refine ⟨vacc, hA4, by rw [ra4.len]; exact Nat.lt_of_lt_of_le (of_decide_eq_true hc2) lim, ?_⟩
              have ne : ∀ j, A ∉ S4 j := fun j m => e4.av j A m (.inr (by simp))
              refine fin (H5 := L2.upd H4 A (.lst (vacc ++ [v4]))) (ρ5 := ρ4) (S5 := S4) ⟨fun j d h => ?_, e4.nd, e4.dj, e4.av, fun a h => ?_, fun j a h => ?_, e4.ln⟩ ⟨fun a o q n na => ?_, fun a j m => t34.own a (.inl ⟨j, m⟩)⟩ upd_same ((ra4.upd bA fun m => nomatch m).app (Rs.cons (r4.upd bA fun m => nomatch m) .nil)) hc1 (by simpa using hl)
              · obtain ⟨v5, h5, r5⟩ := e4.sl j d h
                exact ⟨v5, h5, r5.upd bA (ne j)⟩
              · by_cases ha : a = A
                · subst ha; exact ⟨⟨.lst _, trivial⟩, upd_same⟩
                · rw [upd_ne ha]; exact e4.tb a h
              · by_cases ha : a = A
                · subst ha; exact ⟨⟨.lst _, trivial⟩, upd_same⟩
                · rw [upd_ne ha]; exact e4.ts j a h
              · rw [upd_ne na]
                exact t34.keep a o q n
            · cases hl
  · have hi' : i = xs.length := by omega
    subst hi'
    rw [List.drop_length] at hl
    unfold cLoop at hl
    cases hl
    exact .inl ⟨stp, p H S vacc e1 hA ra st⟩
end EV

set_option Elab.async false
set_option linter.all false
set_option maxRecDepth 100000
set_option maxHeartbeats 1000000
/-! EVe: list comprehensions as expressions. -/
namespace EV
open PySem L2
variable {K : PySem.W.Frag} {B B' B0 B1 : Bs} {H H1 H2 H' : Hp} {σ σ' σ1 : St} {ρ ρ1 ρ2 ρ' : Env} {S S1 S2 S' : Nat → List Addr} {s s1 s2 : List Addr} {E : St → XK} {Q : VK}
theorem restE_some {ρ0 : Env} {j : Nat} {d : D} : ∀ {vs : List Nat}, (restE ρ0 ρ vs)[j]? = some (some d) → (j ∈ vs ∧ (ρ0[j]?).join = some d) ∨ (j ∉ vs ∧ ρ[j]? = some (some d))
  | [], h => .inr ⟨by simp, h⟩
  | v :: vs, h => by
    rw [restE] at h
    by_cases hj : j = v
    · subst hj
      by_cases hl : j < (restE ρ0 ρ vs).length
      · rw [List.getElem?_set_self hl] at h
        exact .inl ⟨by simp, Option.some.inj h⟩
      · rw [List.getElem?_eq_none (by rw [List.length_set]; omega)] at h; cases h
    · rw [List.getElem?_set_ne (Ne.symm hj)] at h
      rcases restE_some h with ⟨h1, h2⟩ | ⟨h1, h2⟩
      · exact .inl ⟨by simp [h1], h2⟩
      · exact .inr ⟨by simp [hj, h1], h2⟩
def vsOk (ρ : Env) (vs : List Nat) : Bool := vs.all fun v => match (ρ[v]?).join with
  | some d => d.fz
  | none => true
/-- behind the block -/
theorem lc_exit {vs : List Nat} {A : Addr} {vacc : List V} {ys : List D} (e : EnvR K B1 H1 σ ρ1 S1) (nA : H1 A = none) (ok : vsOk ρ1 vs = true) (e' : EnvR K (pl B1 [A]) H' (wipe σ vs) ρ' S') (hA : H' A = some (.lst vacc)) (ra : Rs K (bl (pl B1 [A]) S') H' vacc ys []) (st : StA A H1 S1 H' S') :
    EnvR K (pl B1 [A]) H' σ (restE ρ1 ρ' vs) (wipeS S' vs) ∧ R K (bl (pl B1 [A]) (wipeS S' vs)) H' (.ref A) (.lst true ys) [A] ∧ Step H1 S1 H' (wipeS S' vs) [A] := by
  have sub : ∀ a, bl (pl B1 [A]) (wipeS S' vs) a → bl (pl B1 [A]) S' a := fun a z => z.imp id fun ⟨j, m⟩ => ⟨j, (wipeS_mem m).2⟩
  refine ⟨⟨fun j d h => ?_, fun j => ?_, fun i j a h1 h2 => e'.dj i j a (wipeS_mem h1).2 (wipeS_mem h2).2, fun j a h => e'.av j a (wipeS_mem h).2, e'.tb, fun j a h => e'.ts j a (wipeS_mem h).2, ?_⟩, .lstO hA (ra.mono (fun _ _ q _ => q) fun a _ _ n z => n (sub a z)), ⟨st.keep, fun a h => ?_⟩⟩
  · rcases restE_some h with ⟨h1, h2⟩ | ⟨h1, h2⟩
    · have hf : d.fz = true := by
        have := List.all_eq_true.mp ok j h1
        rw [h2] at this
        exact this
      obtain ⟨v, hv, r⟩ := e.sl j d (join_some.mp h2)
      have z := r.nil hf
      rw [z] at r
      refine ⟨v, hv, ?_⟩
      rw [show wipeS S' vs j = [] from if_pos h1]
      refine r.mono (fun a o q n => st.keep a o q fun i m => n.elim (fun n => n (.inr ⟨i, m⟩)) fun n => nomatch n) fun a o q n z => ?_
      rcases sub a z with (z | z) | ⟨i, z⟩
      · exact n (.inl z)
      · have : a = A := by simpa using z
        rw [this, nA] at q
        cases q
      · rcases st.own a ⟨i, z⟩ with w | ⟨i', w⟩
        · rw [q] at w; cases w
        · exact n (.inr ⟨i', w⟩)
    · obtain ⟨v, hv, r⟩ := e'.sl j d h2
      rw [wipe_get, if_neg h1] at hv
      refine ⟨v, hv, ?_⟩
      rw [show wipeS S' vs j = S' j from if_neg h1]
      exact r.mono (fun _ _ q _ => q) fun a _ _ n z => n (sub a z)
  · unfold wipeS
    split
    · exact List.nodup_nil
    · exact e'.nd j
  · rw [restE_len, ← e'.ln, wipe_length]
  · rcases h with ⟨j, m⟩ | m
    · exact st.own a ⟨j, (wipeS_mem m).2⟩
    · have : a = A := by simpa using m
      rw [this]
      exact .inl nA
def lcFin (ρ1 : Env) (vs : List Nat) : Out (Env × List D) → Out (Env × D)
  | .ok (ρ', ys) => .ok (restE ρ1 ρ' vs, .lst true ys)
  | _ => .bad
noncomputable def vLc (vs : List Nat) (I : VI) (G : VG) (T : VT) (F : VE) : VE := fun ρ => (I ρ).bind fun q => if vsOk q.1 vs && depOk q.2.2 vs then lcFin q.1 vs (cLoop (chkO q.2.2) (cTurn vs G T F) q.2.1 [] (wipeE q.1 vs)) else .bad
theorem ev_lc {W1 vs : List Nat} {wi : TI} {I : VI} {g : TG} {G : VG} {tt : TT} {T : VT} {te : TE} {F : VE} (hi : IV K E wi I) (hg : GV K W1 g G) (ht : TV K E0' tt T) (hF : EV K E0' te F) (hW1 : ∀ j ∈ W1, j ∈ vs) : EV K E (tLc wi g tt te vs) (vLc vs I G T F) := fun B0 σ H ρ S Q e p => by
  show wi σ H fun J H1 => ∀ D, H1 D = none → lcR g tt te vs σ D Q J H1
  refine hi B0 σ H ρ S _ e ?_
  unfold vLc at p
  cases hA : I ρ with
  | bad => rw [hA] at p; exact p.elim
  | exc ρ' x => rw [hA] at p; exact p
  | ok q =>
    obtain ⟨ρ1, xs, dep⟩ := q
    rw [hA] at p
    rw [Out.bind_ok] at p
    dsimp only at p
    intro J H1 S1 s1 Ct e1 a1 t1 sr c A nA
    by_cases ok : (vsOk ρ1 vs && depOk dep vs) = true
    · rw [if_pos ok] at p
      obtain ⟨ok1, ok2⟩ := Bool.and_eq_true_iff.mp ok
      have dp : ∀ i d, dep = some (i, d) → i ∉ vs := fun i d hh => by subst hh; exact of_decide_eq_true ok2
      cases hc : cLoop (chkO dep) (cTurn vs G T F) xs [] (wipeE ρ1 vs) with
      | bad => rw [hc] at p; exact p.elim
      | exc => rw [hc] at p; exact p.elim
      | ok q2 =>
        obtain ⟨ρ', ys⟩ := q2
        rw [hc] at p
        refine lc_ev (B1 := pl B0 s1) sr ⟨fun x m => .inl (.inr m), fun x m z => ?_, fun x z => .inr (by rw [z]; simp), fun i d _ => by simp⟩ hg ht hF hW1 e1 nA (sr.wipe _ A _ vs σ ρ1 H1 S1 nA dp e1 c) hc fun H' S' vacc e' hD ra st => ?_
        · obtain ⟨o, ho⟩ := e1.tb x (.inr m)
          rw [z, nA] at ho
          cases ho
        · obtain ⟨h1, h2, h3⟩ := lc_exit e1 nA ok1 e' hD ra st
          refine p _ H' _ [A] (h1.sub fun b z => z.imp .inl id) (h2.mono (fun _ _ q _ => q) fun b _ _ n' z => n' (z.imp (fun z => z.imp .inl id) id)) (by simp) (fun b m z => ?_) ((t1.trans h3).sub fun b m => List.mem_append_right _ m)
          have : b = A := by simpa using m
          rw [this] at z
          obtain ⟨o, ho⟩ := e1.tb A (.inl z)
          rw [nA] at ho
          cases ho
    · rw [if_neg ok] at p
      exact p.elim
end EV

set_option Elab.async false
set_option linter.all false
set_option maxRecDepth 100000
set_option maxHeartbeats 4000000
/-! TT: a feed that moves on, names and titles, without any program. -/
namespace L2
open PySem PySem.Spec PyProof.Rows
section
variable {P : Program} {w : World} {K : PySem.W.Frag} {mg : Str → Option Value} {base : Heap} {CX : CXT} {k : Nat} {x : Str} {ps : List Str} {sp sp' : Sp}
theorem HasFn.weak (O : HasFn P w K mg base CX k x ps sp) (h : ∀ vs H Q E, sp' vs H Q E → sp vs H Q E) : HasFn P w K mg base CX k x ps sp' := by
  obtain ⟨f, fd, F, m, kp, b⟩ := O
  exact ⟨f, fd, F.imp h, m, kp, b⟩
end
theorem sNew {H : Hp} {p : Addr} {o : HO} (h : H p = none) : Same H (upd H p o) := fun b x e => by
  rw [upd_ne (ne_of_none e h)]
  exact e
/-- a feed stands at p -/
def Fed (p : Addr) (H : Hp) : Prop := ∃ own st : Int, H p = some (.lst [.int own, .int st]) ∧ 0 ≤ own ∧ 0 < st ∧ st < 4294967296
/-- all but the feed stays; the feed stands -/
structure Mv (p : Addr) (H H' : Hp) : Prop where
  fed : Fed p H'
  but : ∀ b o, b ≠ p → H b = some o → H' b = some o
section
variable {p : Addr} {H H1 H2 : Hp}
theorem Mv.refl (h : Fed p H) : Mv p H H := ⟨h, fun _ _ _ e => e⟩
theorem Mv.trans (a : Mv p H H1) (b : Mv p H1 H2) : Mv p H H2 := ⟨b.fed, fun x o n e => b.but x o n (a.but x o n e)⟩
theorem Fed.same (h : Fed p H) (s : Same H H1) : Fed p H1 := let ⟨o, t, e, r⟩ := h; ⟨o, t, s _ _ e, r⟩
theorem Mv.same (a : Mv p H H1) (s : Same H1 H2) : Mv p H H2 := ⟨a.fed.same s, fun x o n e => s _ _ (a.but x o n e)⟩
theorem Mv.of (h : Fed p H) (s : Same H H1) : Mv p H H1 := (Mv.refl h).same s
theorem Fed.some (h : Fed p H) : ∃ o, H p = Option.some o := let ⟨_, _, e, _⟩ := h; ⟨_, e⟩
theorem Fed.ne (h : Fed p H) {b : Addr} (n : H b = none) : b ≠ p := fun z => by
  obtain ⟨o, e⟩ := h.some
  rw [z, e] at n
  cases n
/-- what is new in the later store was new in the earlier one -/
theorem Mv.free (h : Fed p H) (a : Mv p H H1) {b : Addr} (n : H1 b = none) : H b = none := by
  cases e : H b with
  | none => rfl
  | some o =>
    have nb : b ≠ p := a.fed.ne n
    rw [a.but b o nb e] at n
    cases n
theorem Mv.at (a : Mv p H H1) {b : Addr} {o : HO} (n : b ≠ p) (e : H b = some o) : H1 b = some o := a.but b o n e
/-- Same from an older store in which the feed did not stand -/
theorem Mv.old {H0 : Hp} (a : Mv p H H1) (s : Same H0 H) (n : H0 p = none) : Same H0 H1 := fun b o e => a.but b o (ne_of_none e n) (s b o e)
/-- a write at a place that is new to the first store -/
theorem Mv.upd {b : Addr} {o : HO} (h : Fed p H) (a : Mv p H H1) (n : H b = none) : Mv p H (upd H1 b o) := by
  have nb : b ≠ p := h.ne n
  refine ⟨?_, fun x o' nx e => ?_⟩
  · obtain ⟨u, t, e, r⟩ := a.fed
    exact ⟨u, t, by rw [upd_ne (Ne.symm nb)]; exact e, r⟩
  · rw [upd_ne (ne_of_none e n)]
    exact a.but x o' nx e
theorem Mv.seq {K : PySem.W.Frag} (h : Fed p H) (a : Mv p H H1) {b : Addr} {xs : List V} (n : b ≠ p) (e : SqL K H b xs) : SqL K H1 b xs := by
  rcases e with (e | ⟨o, e⟩) | e
  · exact .inl (.inl (a.but _ _ n e))
  · exact .inl (.inr ⟨o, a.but _ _ n e⟩)
  · exact .inr e
theorem Mv.sqt {K : PySem.W.Frag} (h : Fed p H) (a : Mv p H H1) {b : Addr} {xs : List V} (n : b ≠ p) (e : SqT K H b xs) : SqT K H1 b xs := by
  rcases e with (e | ⟨o, e⟩) | e
  · exact .inl (.inl (a.but _ _ n e))
  · exact .inl (.inr ⟨o, a.but _ _ n e⟩)
  · exact .inr e
end
/-! ### names -/
def LETS : Str := "abcdefghijklmnopqrstuvwxyz"
def FIGS : Str := "0123456789"
def SIGS : Str := "abcdefghijklmnopqrstuvwxyz0123456789"
def isLet (c : Nat) : Bool := decide (c ∈ LETS.cps.toList)
def isSig (c : Nat) : Bool := isLet c || decide (c ∈ FIGS.cps.toList)
def isNm (z : Str) : Bool := decide (1 ≤ z.length) && decide (z.length ≤ 6) && isLet (z.cps.getD 0 0) && z.cps.toList.all isSig
/-- a name, not the one that is never there -/
def isTl (z : Str) : Bool := isNm z && !(z == ("never" : Str))
theorem isTl_nm {z : Str} (h : isTl z = true) : isNm z = true := (Bool.and_eq_true_iff.mp h).1
theorem isTl_nv {z : Str} (h : isTl z = true) : z ≠ "never" := fun e => by subst e; revert h; decide +kernel
def sg (i : Int) : Nat := SIGS.cps.toList.getD i.toNat 0
theorem sg_at {i : Int} (h0 : 0 ≤ i) (h1 : i < 36) : atI SIGS.cps.toList i = some (sg i) := by
  have h : ∀ n : Nat, n < 36 → atI SIGS.cps.toList (n : Int) = some (sg (n : Int)) := by decide +kernel
  have e : i = ((i.toNat : Nat) : Int) := by omega
  rw [e]
  exact h _ (by omega)
/-! ### titles -/
def t0 (s k : Int) : Str := (⟨#[sg ((s + k) % 26)]⟩ : Str) ++ ((toString (s * 7 + k) : String) : Str)
def t1 (s k : Int) : Str := ("k" : Str) ++ (⟨#[sg ((s + 5 * k) % 36)]⟩ : Str)
def t2 (s k : Int) : Str := ("q0zz" : Str) ++ (⟨#[sg ((s + k) % 36)]⟩ : Str) ++ ("b" : Str)
def t3 (s k : Int) : Str := Txt.mul (⟨#[sg (k % 26)]⟩ : Str) (1 + k / 26 + s % 3)
def base4 : List Str := ["word", "truth", "number", "none"]
def tl (t : Int → Int → Str) (s : Int) (n : Nat) : List Str := (List.range n).map fun j => t s (0 + (j : Nat))
def noTwice : List Str → Bool
  | [] => true
  | x :: xs => (xs.all fun y => !(x == y)) && noTwice xs
def ttOk (t : Int → Int → Str) (n : Nat) : Bool := (List.range 26).all fun s => (tl t (s : Int) n).all isTl && noTwice (tl t (s : Int) n)
theorem tt0 : ttOk t0 40 = true := by decide +kernel
theorem tt1 : ttOk t1 36 = true := by decide +kernel
theorem tt2 : ttOk t2 36 = true := by decide +kernel
theorem tt3 : ttOk t3 36 = true := by decide +kernel
theorem tt4 : (base4.all isTl && noTwice base4) = true := by decide +kernel
theorem noTwice_nodup : ∀ {xs : List Str}, noTwice xs = true → xs.Nodup
  | [], _ => List.nodup_nil
  | x :: xs, h => by
    obtain ⟨h1, h2⟩ := Bool.and_eq_true_iff.mp h
    refine List.nodup_cons.mpr ⟨fun m => ?_, noTwice_nodup h2⟩
    have := List.all_eq_true.mp h1 x m
    simp at this
/-- good titles: names, no two alike -/
def Tls (n : Nat) (ys : List Str) : Prop := ys.length = n ∧ (∀ y ∈ ys, isTl y = true) ∧ ys.Nodup
theorem tl_take (t : Int → Int → Str) (s : Int) {n m : Nat} (h : n ≤ m) : tl t s n = (tl t s m).take n := by
  unfold tl
  rw [← List.map_take, List.take_range, Nat.min_eq_left h]
theorem tls_of {t : Int → Int → Str} {s : Int} {n m : Nat} (c : ttOk t m = true) (h0 : 0 ≤ s) (h1 : s < 26) (hn : n ≤ m) : Tls n (tl t s n) := by
  have e : s = ((s.toNat : Nat) : Int) := by omega
  have c1 := List.all_eq_true.mp c s.toNat (List.mem_range.mpr (by omega))
  rw [← e] at c1
  obtain ⟨c2, c3⟩ := Bool.and_eq_true_iff.mp c1
  rw [tl_take t s hn]
  refine ⟨?_, fun y hy => List.all_eq_true.mp c2 y (List.mem_of_mem_take hy), (noTwice_nodup c3).sublist (List.take_sublist _ _)⟩
  unfold tl
  rw [List.length_take, List.length_map, List.length_range]
  omega
theorem Tls.perm {n : Nat} {xs ys : List Str} (h : Tls n xs) (p : ys.Perm xs) : Tls n ys := ⟨p.length_eq.trans h.1, fun y hy => h.2.1 y (p.mem_iff.mp hy), p.nodup_iff.mpr h.2.2⟩
theorem Tls.take {n m : Nat} {xs : List Str} (h : Tls m xs) (k : n ≤ m) : Tls n (xs.take n) := ⟨by rw [List.length_take, h.1]; omega, fun y hy => h.2.1 y (List.mem_of_mem_take hy), h.2.2.sublist (List.take_sublist _ _)⟩
theorem tls4 : Tls 4 base4 := by
  obtain ⟨c1, c2⟩ := Bool.and_eq_true_iff.mp tt4
  exact ⟨rfl, fun y hy => List.all_eq_true.mp c1 y hy, noTwice_nodup c2⟩
theorem isNm_len {z : Str} (h : isNm z = true) : 1 ≤ z.length ∧ z.length ≤ 6 := by
  unfold isNm at h
  simp only [Bool.and_eq_true, decide_eq_true_eq] at h
  exact ⟨h.1.1.1, h.1.1.2⟩
end L2

set_option Elab.async false
set_option linter.all false
set_option maxRecDepth 100000
set_option maxHeartbeats 4000000
/-! OQ: in, len, [..] of own instances; cls(); classmethods; where a slot's wish takes what flies. -/
namespace L2
open PySem PySem.Spec PyProof.Rows
section
variable {X : Cx} {CX : CXT} {k j : Nat} {C : Addr} {m : Str} {ps : List Str} {sp : Sp} {E : XK}
/-- run_at with a wish by the slots -/
theorem run_atS {A : Around} {f : Addr} {fd : FuncData} {pins : List (Addr × Obj)} {σ : St} {H : Hp} {s : Shared} {Q : VK} {us : List Value} {vs : List V} (hA : A.frames = X.A.frames) (F : FnOk X.prog X.w X.K X.mg X.base CX k f fd ps sp) (hr : Room k A) (hb : Binds X.K fd ps []) (hx : PassesAt CX X σ E)
    (I : Inv X pins σ H s) (r : Vals vs us) (h : sp vs H Q E) : wpAny (model X.prog X.w) A (call (.ref f) us) (EP X pins σ Q) X.xe s := by
  have e := I.env0
  have e0 : Env0 X.prog X.w X.K X.mg X.base A X.stack s H := ⟨by rw [hA]; exact e.frames, e.mod, e.bs, e.bsz, e.funs, e.frf, e.hok, e.bare⟩
  have hl : us.length = ps.length := r.length.symm.trans (F.len _ _ _ _ h)
  have b := hb s us I.kIn (by simpa using hl)
  rw [List.append_nil] at b
  refine wpAny_call (codeAny_mono (F.run A X.stack s H ⟨us, []⟩ us vs Q E hr e0 b r h) fun r s' hq => ?_)
  match r, hq with
  | .error e, hq => exact hx pins H s e s' I hq
  | .ok (.ret u), hq => exact I.after hq
  | .ok .next, hq => exact False.elim hq
  | .ok .brk, hq => exact False.elim hq
  | .ok .cont, hq => exact False.elim hq
/-- x in y, y an instance of the class -/
def rOwnIn (C : Addr) (neg : Bool) (sp : Sp) (E : XK) : R2 := fun x y H Q => ∃ a dx fs, y = .ref a ∧ H a = some (.ins C dx fs) ∧ sp [.ref a, x] H (fun v H' => ∃ b, v = .bl b ∧ Q (.bl (if neg then !b else b)) H') E
theorem op_ownIn (O : HasM X.prog X.w X.K X.mg X.base CX k C "__contains__" ps sp) (hr : Room j X.A) (hx : Passes CX X E) (hjk : k ≤ j := by decide) : OpR X (compareOp .In) (rOwnIn C false sp E) := by
  obtain ⟨f, fd, F, hs, hf, hk, hb⟩ := O
  intro pins s σ H x y v u Q I rx ry h
  obtain ⟨a, dx, fs, rfl, ha, q⟩ := h
  cases ry
  obtain ⟨mA, J, _⟩ := ins_get I.hok ha
  obtain ⟨od, J, _⟩ := J.look
  obtain ⟨m, hF⟩ := I.fr
  refine PySem.W.in_K hF I.ok.mod.kin J hs hf ?_
  refine wpAny_mono (run_at rfl F (hr.mono hjk) hb hx I (vs := [.ref a, x]) (us := [.ref a, v]) (.cons rfl (.cons rx .nil)) q) (fun u s' z => ?_) fun _ _ z => z
  obtain ⟨v', H', I', rv, b, rfl, q'⟩ := z
  cases rv
  exact wpAny_truthy_bool ⟨.bl b, H', I', rfl, q'⟩
theorem op_ownNotIn (O : HasM X.prog X.w X.K X.mg X.base CX k C "__contains__" ps sp) (hr : Room j X.A) (hx : Passes CX X E) (hjk : k ≤ j := by decide) : OpR X (compareOp .NotIn) (rOwnIn C true sp E) := by
  obtain ⟨f, fd, F, hs, hf, hk, hb⟩ := O
  intro pins s σ H x y v u Q I rx ry h
  obtain ⟨a, dx, fs, rfl, ha, q⟩ := h
  cases ry
  obtain ⟨mA, J, _⟩ := ins_get I.hok ha
  obtain ⟨od, J, _⟩ := J.look
  obtain ⟨m, hF⟩ := I.fr
  refine PySem.W.notIn_K hF I.ok.mod.kin J hs hf ?_
  refine wpAny_mono (run_at rfl F (hr.mono hjk) hb hx I (vs := [.ref a, x]) (us := [.ref a, v]) (.cons rfl (.cons rx .nil)) q) (fun u s' z => ?_) fun _ _ z => z
  obtain ⟨v', H', I', rv, b, rfl, q'⟩ := z
  cases rv
  exact wpAny_truthy_bool ⟨.bl (!b), H', I', rfl, q'⟩
/-- len(x) -/
def rOwnLen (C : Addr) (sp : Sp) (E : XK) : List V → Hp → VK → Prop := fun xs H Q => ∃ a dx fs, xs = [.ref a] ∧ H a = some (.ins C dx fs) ∧ sp [.ref a] H (fun v H' => ∃ n : Int, v = .int n ∧ 0 ≤ n ∧ n < 2 ^ 63 ∧ Q v H') E
theorem call_ownLen (O : HasM X.prog X.w X.K X.mg X.base CX k C "__len__" ps sp) (hr : Room j X.A) (hx : Passes CX X E) (hjk : k + 1 ≤ j := by decide) : CallR X (.builtin "len") (rOwnLen C sp E) := by
  obtain ⟨f, fd, F, hs, hf, hk, hb⟩ := O
  intro pins s σ H xs us Q I r h
  obtain ⟨a, dx, fs, rfl, ha, q⟩ := h
  obtain ⟨u, rfl, rx⟩ := vals1 r
  cases rx
  obtain ⟨mA, J, _⟩ := ins_get I.hok ha
  obtain ⟨od, J, _⟩ := J.look
  obtain ⟨m, hF⟩ := I.fr
  refine PySem.W.len_K hF I.ok.mod.kin J hs hf ?_
  refine wpAny_mono (run_at rfl F ((hr.mono hjk).in1) hb hx I (vs := [.ref a]) (us := [.ref a]) (.cons rfl .nil) q) (fun u s' z => ?_) fun _ _ z => z
  obtain ⟨v', H', I', rv, n, rfl, n0, n1, q'⟩ := z
  obtain ⟨t, rfl⟩ := rv
  exact ⟨⟨n0, n1⟩, .int n, H', I'.tok _, ⟨_, rfl⟩, q'⟩
/-- x[y], x an instance of the class -/
def tOwnIx (C : Addr) (sp : Sp) (E : St → XK) (ta tb : TE) : TE := fun σ H Q => ta σ H fun x H1 => tb σ H1 fun y H2 => ∃ a dx fs, x = .ref a ∧ H2 a = some (.ins C dx fs) ∧ sp [.ref a, y] H2 Q (E σ)
theorem pe_ownIx {a b : Expr} {ta tb : TE} {pos : Pos} {E : St → XK} (O : HasM X.prog X.w X.K X.mg X.base CX k C "__getitem__" ps sp) (hfn : ∀ f, PySem.W.findIn X.K (.ref C) "__getitem__" = some (some (.ref f)) → PySem.W.fnIn X.K f = true) (hr : Room j X.A) (hx : ∀ σ, PassesAt CX X σ (E σ)) (ha : PE X a ta) (hb' : PE X b tb) (hjk : k + 1 ≤ j := by decide)
    (hsl : ∀ (x : Addr) (i : Value), subscripted b true (.ref x) i = runValue (.builtin "lifetime.subscript" ⟨[.ref x, i], []⟩) := by intro _ _; with_unfolding_all rfl) : PE X (.Subscript a b pos) (tOwnIx C sp E ta tb) := by
  obtain ⟨f, fd, F, hs, hf, hk, hb⟩ := O
  refine ⟨fun pins s σ H Q I h => ?_⟩
  refine Subscript_ (binT ha hb' I h fun v u s2 x y H2 I2 rx ry q => ?_)
  obtain ⟨a', dx, fs, rfl, ea, q⟩ := q
  cases rx
  obtain ⟨mA, J, _⟩ := ins_get I2.hok ea
  obtain ⟨od, J, _⟩ := J.look
  obtain ⟨m, hF⟩ := I2.fr
  refine PySem.W.sub_K hF I2.ok.mod.kin J hs (hfn f hs) hf ?_ (hsl _ _)
  exact run_atS rfl F ((hr.mono hjk).in1) hb (hx σ) I2 (vs := [.ref a', y]) (us := [.ref a', u]) (.cons rfl (.cons ry .nil)) q
end
end L2

set_option Elab.async false
set_option linter.all false
set_option maxRecDepth 100000
set_option maxHeartbeats 4000000
/-! OR: try with several clauses 'except x as n', one name n for all of them. -/
namespace L2
open PySem PySem.Spec PyProof.Rows
abbrev TSx := Addr → Value → Option Addr → TS
/-- the clauses' wish: the first that fits takes it; behind its suite the name is gone -/
def wAll (K : PySem.W.Frag) (i : Nat) (Wo : WX) (D : Ends) : List (Value × TSx) → WX
  | [] => Wo
  | (c, ts) :: r => fun cls d σ H => ∃ b, PySem.W.exmOne K cls c = some b ∧
      (b = true → ∀ a, H a = none → ts a cls d { nx := fun σ' H' => D.nx (σ'.set i none) H', rt := D.rt, bk := fun σ' H' => D.bk (σ'.set i none) H', ct := fun σ' H' => D.ct (σ'.set i none) H' } (σ.set i (some (.ref a))) H) ∧ (b = false → wAll K i Wo D r cls d σ H)
inductive AllOk (X : Cx) (n : Str) : List ExceptHandler → List (Value × TSx) → Prop
  | done : AllOk X n [] []
  | more {x : Str} {c : Value} {ts : TSx} {q : Stmt} {qs : List Stmt} {np hp : Pos} {hds : List ExceptHandler} {l : List (Value × TSx)} : Names X x c →
      (∀ (a : Addr) (oe : Obj) (cls : Value) (d : Option Addr) (pn : List (Addr × Obj)), Zc cls d oe → (∃ vs, oe.data = .fields vs) → PSs (X.suite a ((a, oe) :: pn)) (q :: qs) (ts a cls d)) → AllOk X n hds l →
      AllOk X n (.ExceptHandler (some (.Name x np)) (some n) (q :: qs) hp :: hds) ((c, ts) :: l)
section
variable {X : Cx} {n : Str} {i : Nat} {body : List Stmt} {hd : ExceptHandler} {hds : List ExceptHandler} {l : List (Value × TSx)} {pos : Pos} {tb : WX → TS} {Wo : WX}
/-- an exception that has come down to this frame meets the clauses -/
theorem all_go {pins : List (Addr × Obj)} {D : Ends} {a : Addr} {B G : Heap} {sI z : Shared} {σ : St} {H : Hp} {cls : Value} {d : Option Addr} (hs : X.stack = X.env :: X.outer) (hf : X.env.frame = some X.env.locals) (hN : X.N.Nodup) (hi : X.N[i]? = some n) (hln : X.env.kindOf n = some .local) (tk : Takes X Wo)
    (J : Inv X pins σ H sI) (nb : ∀ b o, sI.heap.get? b = some o → b ∉ frs X.stack → B.get? b = some o) (up : sI.heap.UpToSlots G) (fly : HandSPX.FlyingZ B (X.env :: X.outer) a (Zc cls d) G) (na : H a = none) (os : z.os = sI.os) (ag : AllBare z.gens) (ho : AllOk X n hds l) :
    wAll X.K i Wo D l cls d σ H → wpAny (model X.prog X.w) X.A (handleBy (.ref a) X.env hds) (SP X pins D) X.xe { z with heap := G } := by
  have ok := J.ok
  -- the exception is none of the frames
  have off : a ∉ frs (X.env :: X.outer) := fun hm => by
    obtain ⟨oe, vs, ge, _, gd⟩ := fly.there
    obtain ⟨_, o2, g2, no⟩ := fly.2.2.1.mem hm
    rw [ge] at g2
    cases g2
    exact no _ gd
  have offL : a ≠ X.env.locals := fun e => off (List.mem_filterMap.mpr ⟨X.env, List.mem_cons_self, by rw [hf, e]⟩)
  have offF : a ∉ X.fs := fun hm => by
    obtain ⟨e, me, q⟩ := List.mem_filterMap.mp hm
    exact off (List.mem_filterMap.mpr ⟨e, List.mem_cons_of_mem _ me, q⟩)
  have at_ : ∀ {G' : Heap}, sI.heap.UpToSlots G' → HandSPX.FlyingZ B (X.env :: X.outer) a (Zc cls d) G' → ∃ oe vs, G'.get? a = some oe ∧ Zc cls d oe ∧ oe.data = .fields vs ∧ Inv X pins σ H { z with heap := G' } ∧ Inv (X.suite a ((a, oe) :: (X.pn ++ pins))) [] σ H { z with heap := G' } := fun {G'} u f => by
    obtain ⟨oe, vs, ge, gz, gd⟩ := f.there
    have J' : Inv X pins σ H { z with heap := G' } := J.landed nb f.1 u os ag
    exact ⟨oe, vs, ge, gz, gd, J', J'.suite ge gd na offL offF⟩
  induction ho with
  | done =>
    intro w
    refine wpAny_handleBy_nil ?_
    obtain ⟨_, _, _, oe, vs, T, oT, ts', ge, _, gd, g1, _⟩ := id fly
    unfold PySem.passOn
    refine wpAny_bind (wpAny_field ge gd g1 ?_)
    rw [if_neg (by simp)]
    have out : wpAny (model X.prog X.w) X.A (setFlight (.ref a) X.env.frame) (fun _ y => wpAny (model X.prog X.w) X.A (throw (.ref a) : Sem Flow) (SP X pins D) X.xe y) X.xe { z with heap := G } := by
      rw [hf]
      exact HandSPX.setFlight_upZ fly fun G2 held up2 => wpAny_throw (tk _ _ ⟨a, B, sI, pins, σ, H, cls, d, rfl, J, nb, up.trans up2, .inr (.inr (by rw [hs]; exact held)), na, os, ag, w⟩)
    first
      | exact wpAny_bind (wpAny_pure (wpAny_bind out))
      | exact wpAny_bind out
  | @more x c ts st sts np hp hds2 l2 hc hsu _ ih =>
    rintro ⟨b, hb1, hyes, hno⟩
    obtain ⟨oe, vs, ge, gz, gd, J', S⟩ := at_ up fly
    refine wpAny_handleBy_cons (codeAny_handlers_test ?_) (by intro q; cases q)
    have lt : PySem.W.Looks (model X.prog X.w) G (typeOf (.ref a)) cls := fun A Q E y kp q => wpAny_typeOf_ref (kp _ _ ge) (by rw [gz.1]; exact q)
    have lm := PySem.W.exm_one (M := model X.prog X.w) J'.kIn lt hb1
    obtain ⟨hg, hdb, hm⟩ := hc
    have name : ∀ {Q : Value → Shared → Prop} {E : Value → Shared → Prop}, Q c { z with heap := G } → wpAny (model X.prog X.w) (X.A.mark (some (.ref a))) (eval (.Name x np) X.env) Q E { z with heap := G } := fun q => by
      rcases hm with hm | ⟨hm, hv, hnn⟩
      · exact ld_glob (X := X.suite a ((a, oe) :: (X.pn ++ pins))) S hg hm q hdb
      · exact ld_blt (X := X.suite a ((a, oe) :: (X.pn ++ pins))) S hg hm hv q hnn hdb
    refine name (lm.here ?_)
    cases b with
    | false => exact ih (hno rfl)
    | true =>
      refine codeAny_handlers_suite_as (HandSPX.lands_againZ fly fun G2 fly2 up2 => ?_)
      obtain ⟨oe2, vs2, ge2, gz2, gd2, J2, S2⟩ := at_ (up.trans up2) fly2
      refine store_ok (X := X.suite a ((a, oe2) :: (X.pn ++ pins))) (v := .ref a) S2 hN hi (.inl hln) rfl (fun s5 S5 => ?_) (.inr hln)
      refine wpAny_mono ((hsu a oe2 cls d (X.pn ++ pins) gz2 ⟨_, gd2⟩).run [] s5 _ H _ S5 (hyes rfl a na)) (fun f s6 hsp => ?_) (fun _ _ q => False.elim q)
      cases f with
      | next =>
        obtain ⟨_, _, S6, q⟩ := hsp
        exact gone_ok (S6.unsuite ok) hN hi hln fun _ J7 => ⟨_, _, J7, q⟩
      | brk =>
        obtain ⟨_, _, S6, q⟩ := hsp
        exact gone_ok (S6.unsuite ok) hN hi hln fun _ J7 => ⟨_, _, J7, q⟩
      | cont =>
        obtain ⟨_, _, S6, q⟩ := hsp
        exact gone_ok (S6.unsuite ok) hN hi hln fun _ J7 => ⟨_, _, J7, q⟩
      | ret u =>
        obtain ⟨_, _, _, S6, r6, q⟩ := hsp
        exact gone_ok (S6.unsuite ok) hN hi hln fun _ J7 => ⟨_, _, _, J7, r6, q⟩
theorem ps_try_all (hs : X.stack = X.env :: X.outer) (hf : X.env.frame = some X.env.locals) (hN : X.N.Nodup) (hi : X.N[i]? = some n) (hln : X.env.kindOf n = some .local) (tk : Takes X Wo)
    (hb : ∀ (W : WX) (pn : List (Addr × Obj)) (xe : Value → Shared → Prop), Takes (X.tr pn xe) W → PassesOwn (model X.prog X.w) X.A X.env xe → PSs (X.tr pn xe) body (tb W)) (ho : AllOk X n (hd :: hds) l) :
    PS X (.Try body (hd :: hds) [] [] pos) (fun D σ H => tb (wAll X.K i Wo D l) D σ H) := by
  refine ⟨fun pins s σ H D I h => wpAny_Try_except ?_⟩
  have ok := I.ok
  refine wpAny_mono ((hb (wAll X.K i Wo D l) (X.pn ++ pins) (fun e y => wpAny (model X.prog X.w) X.A (noteFrame e X.env) (fun _ y2 => wpAny (model X.prog X.w) X.A (setFlight e none) (fun _ y3 =>
    wpAny (model X.prog X.w) X.A (handleBy e X.env (hd :: hds)) (SP X pins D) X.xe y3) X.xe y2) X.xe y) (fun u y xx => ?_) PassesOwn.looking).run [] s σ H D (I.toTry _) h) (fun f y hsp => ?_) (fun _ _ q => q)
  · obtain ⟨a, B, sI, _, σ', H', cls, d, rfl, J, nb, up, sky, na, os, ag, w⟩ := xx
    have sky' : Sky B (X.env :: X.outer) a (Zc cls d) X.env.locals y.heap := by rw [← hs]; exact sky
    have hfr : X.A.frames = some (X.env :: X.outer) := by rw [ok.frames, hs]
    show wpAny (model X.prog X.w) X.A (noteFrame (.ref a) X.env) _ _ _
    exact Sky.land Zc.steady hfr hf sky' fun G fly up3 => all_go hs hf hN hi hln tk (J.ofTry ok) nb (up.trans up3) fly na os ag ho w
  · cases f with
    | next => obtain ⟨_, _, J, q⟩ := hsp; exact wpAny_execs_nil ⟨_, _, J.ofTry ok, q⟩
    | brk => obtain ⟨_, _, J, q⟩ := hsp; exact ⟨_, _, J.ofTry ok, q⟩
    | cont => obtain ⟨_, _, J, q⟩ := hsp; exact ⟨_, _, J.ofTry ok, q⟩
    | ret u => obtain ⟨_, _, _, J, r, q⟩ := hsp; exact ⟨_, _, _, J.ofTry ok, r, q⟩
/-- e.f, e the exception that the suite holds -/
def tXs (K : PySem.W.Frag) (f : Str) (a : Addr) (cls : Value) (d : Option Addr) (te : TE) : TE := fun σ H Q => te σ H fun x H1 => x = .ref a ∧ ∃ (C dd : Addr) (fs : List (Str × V)) (v : V), cls = .ref C ∧ d = some dd ∧ H1 dd = some (.xd fs) ∧ XfC K C ∧ PySem.W.findIn K (.ref C) f = some none ∧ fs.lookup f = some v ∧ Q v H1
theorem pe_xs {f : Str} {a : Addr} {oe : Obj} {cls : Value} {d : Option Addr} {pn : List (Addr × Obj)} {e : Expr} {te : TE} {pos : Pos} (hz : Zc cls d oe) (hf : ∃ vs, oe.data = .fields vs) (he : PE (X.suite a ((a, oe) :: pn)) e te)
    (hb : attributeBase e f X.env (eval e X.env) = eval e X.env := by rfl) : PE (X.suite a ((a, oe) :: pn)) (.Attribute e f pos) (tXs X.K f a cls d te) := by
  refine ⟨fun pins s σ H Q I h => attr_of hb (thn (he.run pins s σ H _ I h) fun u s1 hh => ?_)⟩
  obtain ⟨x, H1, I1, rx, rfl, C, dd, fs, v, rfl, rfl, ea, T, hno, l, q⟩ := hh
  obtain rfl : u = Value.ref a := rx
  obtain ⟨ha, _⟩ := I1.pin (a, oe) (List.mem_append_left _ List.mem_cons_self)
  obtain ⟨vs, hd⟩ := hf
  obtain ⟨mA, hns, hr⟩ := (show ObjOk X.prog X.w H1 s1.heap dd (.xd fs) from I1.hok dd _ ea)
  obtain ⟨od, hod, hl⟩ := lookIn_ns hns
  obtain ⟨u, hu, ru⟩ := RelO.some_of (v := v) (o := mA f) (by rw [← l]; exact hr f)
  have J : PySem.W.InstAt s1.heap a oe C (some od) := ⟨ha, hz.1, by unfold PySem.W.notCls; rw [hd] <;> rfl, by rw [hz.2]; exact hod⟩
  exact HandSPX.exc_get I1.kIn J T.ga T.gg T.exC (PySem.W.findObj_own T.hdC hno rfl (by rw [hl, hu])) (handed_of ru) ⟨v, H1, I1.tok _, ru, q⟩
end
end L2

set_option Elab.async false
set_option linter.all false
set_option maxRecDepth 100000
set_option maxHeartbeats 4000000
/-! OS: methods that may raise within a try; classes without arguments, by a name or a slot; classmethods. -/
namespace L2
open PySem PySem.Spec PyProof.Rows
def tMethW (C : Addr) (m : Str) (sp : Sp) (E : St → XK) (ta : TE) (t : TA) : TE := fun σ H Q => ta σ H fun x H1 => ∃ a dx fs, x = .ref a ∧ H1 a = some (.ins C dx fs) ∧ fs.lookup m = none ∧ t σ H1 fun vs H2 => sp (.ref a :: vs) H2 Q (E σ)
/-- the class of a slot, made without arguments -/
def tMakeV (i : Nat) (C : Addr) (sp : Sp) (dvs : List V) (E : St → XK) : TE := fun σ H Q => σ[i]? = some (some (.ref C)) ∧ tMakeO C sp dvs E tNil σ H Q
/-- a classmethod by its class -/
def HasCM (P : Program) (w : World) (K : PySem.W.Frag) (mg : Str → Option Value) (base : Heap) (CX : CXT) (k : Nat) (C : Addr) (m : Str) (ps : List Str) (sp : Sp) : Prop :=
  ∃ f fd mc p, FnOk P w K mg base CX k f fd ps sp ∧ ClX.CRead K C mc ∧ ClX.CMet K C mc m p f ∧ Binds K fd ps []
section
variable {X : Cx} {CX : CXT} {k j : Nat} {C : Addr} {m x : Str} {ps : List Str} {sp : Sp} {dvs : List V} {E : St → XK} {o e : Expr} {es : List Expr} {ta : TE} {t : TA} {p pos apos : Pos} {i : Nat}
theorem pe_methW {pl : Sem Bool} (he : PE X o ta) (c : Cls X.K C) (O : HasM X.prog X.w X.K X.mg X.base CX k C m ps sp) (hr : Room j X.A) (hx : ∀ σ, PassesAt CX X σ (E σ)) (ha : PA X (e :: es) t) (hjk : k ≤ j := by decide)
    (hst : starEach (e :: es) X.env = (false, eval e X.env) :: starEach es X.env := by rfl) (hpl : (backTo pos (starEach es X.env)).any (·.1) = false := by rfl)
    (ht : eval (.Call (.Attribute o m apos) (e :: es) [] pos) X.env = (do
      let ov ← eval o X.env
      standAt apos.atName
      let (f, first) ← holding [ov] (getMethod ov m pl)
      callWith pos f first (backTo pos (starEach (e :: es) X.env)) (backToKw pos (keywordEach [] X.env))) := by rfl) :
    PE X (.Call (.Attribute o m apos) (e :: es) [] pos) (tMethW C m sp E ta t) := by
  obtain ⟨f, fd, F, hs, hf, hk, hb⟩ := O
  refine ⟨fun pins s σ H Q I h => PySem.W.methodCall_KW (pl := pl) (thn (he.run pins s σ H _ I h) fun u s1 hh => ?_) ht⟩
  obtain ⟨x, H1, I1, rx, a, dx, fs, rfl, ea, l, q⟩ := hh
  obtain rfl : u = Value.ref a := rx
  refine getmeth_ok I1 ea c ⟨hs, hf, hk⟩ l (PySem.W.callWith_K (first := [.ref a]) (h₀ := X.base) I.ok.mod.kin hk (thn (ha.run pos pins s1 σ H1 _ I1 q) fun us s2 h2 => ?_) hst hpl)
  obtain ⟨vs, H2, I2, r, q2⟩ := h2
  exact ⟨I2.kIn, run_atS rfl F (hr.mono hjk) hb (hx σ) I2 (us := .ref a :: us) (vs := .ref a :: vs) (.cons rfl r) q2⟩
theorem pe_make0S (O : HasC X.prog X.w X.K X.mg X.base CX k C x ps dvs sp) (hr : Room j X.A) (hg : Gl X x) (hx : ∀ σ, PassesAt CX X σ (E σ)) (hjk : k + 1 ≤ j := by decide) (hdb : (x == ("__debug__" : Str)) = false := by decide) :
    PE X (.Call (.Name x p) [] [] pos) (tMakeO C sp dvs E tNil) := by
  obtain ⟨f, fd, ds, F, M, hm, hb, hd⟩ := O
  exact ⟨fun pins s σ H Q I h => wpAny_Call_Name_kw (ld_glob I hg hm (PySem.W.callWith_K0 I.kIn M.kp (run_makeS (us := []) M F (hr.mono hjk) hb hd (hx σ) I .nil h)) hdb)⟩
theorem pe_makeV {y : Str} (O : HasC X.prog X.w X.K X.mg X.base CX k C x ps dvs sp) (hr : Room j X.A) (hN : X.N[i]? = some y) (hv : Vis X.env.scope y) (hx : ∀ σ, PassesAt CX X σ (E σ)) (hjk : k + 1 ≤ j := by decide)
    (hdb : (y == ("__debug__" : Str)) = false := by decide) (hcd : (y == ("__classdict__" : Str)) = false := by decide) : PE X (.Call (.Name y p) [] [] pos) (tMakeV i C sp dvs E) := by
  obtain ⟨f, fd, ds, F, M, hm, hb, hd⟩ := O
  refine ⟨fun pins s σ H Q I h => wpAny_Call_Name_kw (thn ((pe_var (pos := p) hN hv hdb hcd).run pins s σ H (fun v H1 => v = .ref C ∧ H1 = H) I ⟨.ref C, h.1, rfl, rfl⟩) fun u s1 hh => ?_)⟩
  obtain ⟨v, H1, I1, rv, rfl, rfl⟩ := hh
  obtain rfl : u = Value.ref C := rv
  exact PySem.W.callWith_K0 I1.kIn M.kp (run_makeS (us := []) M F (hr.mono hjk) hb hd (hx σ) I1 .nil h.2)
theorem pe_cmO {E : XK} {pl : Sem Bool} (he : PE X o ta) (O : HasCM X.prog X.w X.K X.mg X.base CX k C m ps sp) (hr : Room j X.A) (hx : Passes CX X E) (ha : PA X (e :: es) t) (hjk : k ≤ j := by decide)
    (hst : starEach (e :: es) X.env = (false, eval e X.env) :: starEach es X.env := by rfl) (hpl : (backTo pos (starEach es X.env)).any (·.1) = false := by rfl)
    (ht : eval (.Call (.Attribute o m apos) (e :: es) [] pos) X.env = (do
      let ov ← eval o X.env
      standAt apos.atName
      let (f, first) ← holding [ov] (getMethod ov m pl)
      callWith pos f first (backTo pos (starEach (e :: es) X.env)) (backToKw pos (keywordEach [] X.env))) := by rfl) :
    PE X (.Call (.Attribute o m apos) (e :: es) [] pos) (ClX.tCMeth C sp E ta t) := by
  obtain ⟨f, fd, mc, p, F, r, cm, hb⟩ := O
  exact ClX.pe_cmeth he r cm ((F.raw hb .nil).imp fun vs H Q E h => by show sp (vs ++ []) H Q E; rw [List.append_nil]; exact h) (hr.mono hjk) hx ha hst hpl ht
end
end L2

set_option Elab.async false
set_option linter.all false
set_option maxRecDepth 100000
set_option maxHeartbeats 4000000
/-! OT: tuples whose record is known, so that their methods are found. -/
namespace L2
open PySem PySem.Spec PyProof.Rows
/-- a tuple that is known to have no dict -/
def Tf (H : Hp) (p : Addr) (ys : List V) : Prop := ∃ o : Obj, H p = some (.frz o (.tup ys)) ∧ o.dict = none
theorem Tf.same {H H' : Hp} {p : Addr} {ys : List V} (s : Same H H') (h : Tf H p ys) : Tf H' p ys := let ⟨o, e, d⟩ := h; ⟨o, s _ _ e, d⟩
theorem Tf.sqt {K : PySem.W.Frag} {H : Hp} {p : Addr} {ys : List V} (h : Tf H p ys) : SqT K H p ys := let ⟨o, e, _⟩ := h; .inl (.inr ⟨o, e⟩)
def tBMT (r : V → List V → Hp → VK → Prop) (to : TE) (t : TA) : TE := fun σ H Q => to σ H fun x H1 => (∃ p ys, x = .ref p ∧ Tf H1 p ys) ∧ t σ H1 fun xs H2 => r x xs H2 Q
section
variable {X : Cx} {o e : Expr} {es : List Expr} {to : TE} {t : TA} {name : Str} {apos cpos : Pos} {id : String} {r : V → List V → Hp → VK → Prop}
theorem call_tupleF : CallR X (.type "tuple") (fun xs H Q => ∃ p ys, xs = [.ref p] ∧ SqL X.K H p ys ∧ ∀ l o, H l = none → Obj.dict o = none → Q (.ref l) (upd H l (.frz o (.tup ys)))) := by
  intro pins s σ H xs us Q I r h
  obtain ⟨p, ys, rfl, hq, q⟩ := h
  obtain ⟨u, rfl, rx⟩ := vals1 r
  cases rx
  obtain ⟨its, rv, pl, hz⟩ := I.list hq
  refine call_tuple_list pl.isList (fun G kp => ?_) (by have := rv.length; simp only [List.size_toArray]; omega)
  have I1 : Inv X pins σ H { s with heap := G } := I.kept (t' := s.toks) kp
  refine ⟨.ref G.objs.size, _, I1.laid (t' := s.toks) (o := .frz { cls := .type "tuple", data := .seq its.toArray } (.tup ys)) (fun b o e => Heap.get?_push_of_some _ e) (Nat.le_refl _) ?_, rfl, q _ _ (I1.hok.fresh (Nat.le_refl _)) rfl⟩
  exact ⟨Heap.get?_push_size _ rfl, hz, its, rv, IsTup.new _ _⟩
theorem pe_bmT (pa : PlainAttrs "tuple") (slot : Slot "tuple" name id) (hty : typeOf (.builtin id) = pure (.type "method_descriptor")) (hm : MtR X id r) (ho : PE X o to) (ha : PA X (e :: es) t)
    (hbase : attributeBase o name X.env (eval o X.env) = eval o X.env := by rfl)
    (hfew : ((backTo cpos (starEach (e :: es) X.env)).all (fun x => !x.1) && (backToKw cpos (keywordEach [] X.env)).all (fun x => x.1.isSome)
      && decide ((e :: es).length + ([] : List Keyword).length + (if ([] : List Keyword).isEmpty then 0 else 1) < 30)) = true := by rfl)
    (hline : (apos.endLine == cpos.line) = true := by rfl) (hs : starEach (e :: es) X.env = (false, eval e X.env) :: starEach es X.env := by rfl) (hplain : (backTo cpos (starEach es X.env)).any (·.1) = false := by rfl) :
    PE X (.Call (.Attribute o name apos) (e :: es) [] cpos) (tBMT r to t) := by
  refine ⟨fun pins s σ H Q I h => wpAny_Call_method_late hbase hfew hline rfl (thn (ho.run pins s σ H _ I h) fun v s1 hh => ?_)⟩
  obtain ⟨x, H1, I1, r1, ⟨p, ys, rfl, ob, hp, hd⟩, q1⟩ := hh
  obtain rfl : v = Value.ref p := r1
  obtain ⟨g1, _, its, _, o2, g2, hc, _⟩ := (show ObjOk X.prog X.w H1 s1.heap p (.frz ob (.tup ys)) from I1.hok p _ hp)
  rw [g1] at g2
  cases g2
  refine ⟨"tuple", id, pa, slot, hty, ⟨ob, g1, hc⟩, fun a ea => by cases ea; exact ⟨ob, g1, hd⟩, ?_⟩
  have hA := ha.run cpos pins s1 σ H1 _ I1 q1
  rw [hs] at hA ⊢
  exact Calls.callWith_builtin ((show (false || (backTo cpos (starEach es X.env)).any (·.1)) = (backTo cpos (starEach es X.env)).any (·.1) from Bool.false_or _).trans hplain) (Calls.evalArgs_plain (thn hA fun us s2 ⟨vs, H2, I2, r2, q2⟩ => hm pins s2 σ H2 (.ref p) vs (.ref p) us Q I2 rfl r2 q2))
end
end L2

set_option Elab.async false
set_option linter.all false
set_option maxRecDepth 100000
set_option maxHeartbeats 1000000
/-! EVf: calls by name; chains; parallel assignment; more operators. -/
namespace L2
open PySem PySem.Spec PyProof.Rows
section
variable {X : Cx} {CX : CXT} {j k : Nat} {ps : List Str} {sp : Sp} {E : St → XK} {x : Str} {p pos : Pos} {e : Expr} {es : List Expr} {t : TA}
theorem pe_callW (O : HasFn X.prog X.w X.K X.mg X.base CX k x ps sp) (hr : Room j X.A) (hg : Gl X x) (hx : ∀ σ, PassesAt CX X σ (E σ)) (ha : PA X (e :: es) t) (hjk : k ≤ j := by decide)
    (hdb : (x == ("__debug__" : Str)) = false := by decide) (he : starEach (e :: es) X.env = (false, eval e X.env) :: starEach es X.env := by rfl) (hpl : (backTo pos (starEach es X.env)).any (·.1) = false := by rfl) :
    PE X (.Call (.Name x p) (e :: es) [] pos) (tCallS sp E t) := by
  obtain ⟨f, fd, F, hm, hk, hb⟩ := O
  exact pe_callS F (hr.mono hjk) hg hm hk hb hx ha hdb he hpl
theorem run_fnGS {f : Addr} {fd : FuncData} {pins : List (Addr × Obj)} {σ : St} {H : Hp} {s : Shared} {Q : VK} {us : List Value} {vs : List V} {E : XK} (F : FnG X.prog X.w X.K X.mg X.base CX k f fd ps sp) (hgs : X.A.guards = some []) (hr : Room k X.A) (hb : Binds X.K fd ps []) (hx : PassesAt CX X σ E)
    (I : Inv X pins σ H s) (r : Vals vs us) (h : sp vs H Q E) : wpAny (model X.prog X.w) X.A (call (.ref f) us) (EP X pins σ Q) X.xe s := by
  have hl : us.length = ps.length := r.length.symm.trans (F.len _ _ _ _ h)
  have b := hb s us I.kIn (by simpa using hl)
  rw [List.append_nil] at b
  refine wpAny_call (codeAny_mono (F.run X.A X.stack s H ⟨us, []⟩ us vs Q E hgs hr I.env0 b r h) fun r s' hq => ?_)
  match r, hq with
  | .error e, hq => exact hx pins H s e s' I hq
  | .ok (.ret u), hq => exact I.after hq
  | .ok .next, hq => exact False.elim hq
  | .ok .brk, hq => exact False.elim hq
  | .ok .cont, hq => exact False.elim hq
theorem pe_callWG (O : HasG X.prog X.w X.K X.mg X.base CX k x ps sp) (hgs : X.A.guards = some []) (hr : Room j X.A) (hg : Gl X x) (hx : ∀ σ, PassesAt CX X σ (E σ)) (ha : PA X (e :: es) t) (hjk : k ≤ j := by decide)
    (hdb : (x == ("__debug__" : Str)) = false := by decide) (he : starEach (e :: es) X.env = (false, eval e X.env) :: starEach es X.env := by rfl) (hpl : (backTo pos (starEach es X.env)).any (·.1) = false := by rfl) :
    PE X (.Call (.Name x p) (e :: es) [] pos) (tCallS sp E t) := by
  obtain ⟨f, fd, F, hm, hk, hb⟩ := O
  refine ⟨fun pins s σ H Q I h => ?_⟩
  refine wpAny_Call_Name_kw (ld_glob I hg hm ?_ hdb)
  refine PySem.W.callWith_K (h₀ := X.base) I.ok.mod.kin hk (thn (ha.run pos pins s σ H _ I h) fun us s1 ⟨vs, H1, I1, r, q⟩ => ⟨I1.kIn, ?_⟩) he hpl
  exact run_fnGS F hgs (hr.mono hjk) hb (hx σ) I1 r q
end
end L2
namespace EV
open PySem L2
variable {K : PySem.W.Frag} {B B' B0 B1 : Bs} {H H1 H2 H' : Hp} {σ σ' σ1 : St} {ρ ρ1 ρ2 ρ' : Env} {S S1 S2 S' : Nat → List Addr} {s s1 s2 : List Addr} {E : St → XK} {Q : VK}
/-! ### a < b < c -/
def vChain (f g : List D → Option D) (A B C : VA) : VE := fun ρ => (vCons A (vCons B vNil) ρ).bind fun q => match resAll q.1 q.2 with
  | some [x, y] => if x.fz && y.fz then (match f [x, y] with
    | some (.bl true) => vOp (fun ds => match ds with | [z] => g [y, z] | _ => none) (vCons C vNil) q.1
    | some (.bl false) => .ok (q.1, .bl false)
    | _ => .bad) else .bad
  | _ => .bad
theorem ev_chain {ta tb tc : TE} {r r' : R2} {f g : List D → Option D} {A B C : VA} (ha : AR K E ta A) (hb : AR K E tb B) (hc : AR K E tc C) (o : OPS K (r2 r) f) (o' : OPS K (r2 r') g) : EV K E (tChain r r' ta tb tc) (vChain f g A B C) := fun B0 σ H ρ S Q e p => by
  refine al_cons ha (al_cons hb al_nil) B0 σ H ρ S (fun vs H2 => match vs with | [x, y] => r x y H2 fun z H3 => ∃ k, z = .bl k ∧ (if k = true then tc σ H3 fun w' H4 => r' y w' H4 Q else Q (.bl false) H3) | _ => False) e ?_
  unfold vChain at p
  cases hA : vCons A (vCons B vNil) ρ with
  | bad => rw [hA] at p; exact p.elim
  | exc ρ' x => rw [hA] at p; exact p
  | ok q =>
    obtain ⟨ρ1, as⟩ := q
    rw [hA] at p
    rw [Out.bind_ok] at p
    intro vs H1 S1 s1 e1 hs n1 a1 t1
    dsimp only at p
    split at p
    · rename_i x y hr
      split at p
      · rename_i hf
        obtain ⟨hf1, hf2⟩ := Bool.and_eq_true_iff.mp hf
        have rp := hs.rp e1 hr
        match vs, rp with
        | [vx, vy], .cons (s := sx) rx (.cons (s := sy) ry .nil) =>
          have zx := rx.nil hf1
          have zy := ry.nil hf2
          subst zx zy
          cases hF : f [x, y] with
          | none => rw [hF] at p; exact p.elim
          | some d =>
            rw [hF] at p
            refine o _ H1 [vx, vy] [x, y] d _ (fun a q => e1.tr q) (.cons rx (.cons ry .nil)) hF fun v H2 s2 m r2 n2 f2 => ?_
            cases d with
            | bl b =>
              obtain ⟨rfl, rfl⟩ := r2.bl_s
              have e2 : EnvR K B0 H2 σ ρ1 S1 := (e1.less.grow (s := []) m (fun _ m => nomatch m) (fun _ m => nomatch m)).less
              have t2 : Step H S H2 S1 [] := (t1.trans (Step.grow (s := []) m fun _ m => nomatch m)).sub fun _ m => nomatch m
              have ry2 : R K (bl B0 S1) H2 vy y [] := ry.mono (fun a o q _ => m a o q) fun a _ _ n z => n (z.imp .inl id)
              cases b with
              | false => exact ⟨false, rfl, p _ H2 S1 [] e2.nil .bl List.nodup_nil (fun _ m => nomatch m) t2⟩
              | true =>
                refine ⟨true, rfl, ?_⟩
                show tc σ H2 fun w' H4 => r' vy w' H4 Q
                refine al_cons hc al_nil B0 σ H2 ρ1 S1 (fun ws H4 => match ws with | [w] => r' vy w H4 Q | _ => False) e2 ?_
                dsimp only at p
                unfold vOp at p
                cases hC : vCons C vNil ρ1 with
                | bad => rw [hC] at p; exact p.elim
                | exc ρ' x => rw [hC] at p; exact XP.back0 t2 p
                | ok q2 =>
                  obtain ⟨ρ3, as3⟩ := q2
                  rw [hC] at p
                  rw [Out.bind_ok] at p
                  unfold vFin at p
                  intro ws H4 S4 s4 e4 hs4 n4 a4 t4
                  cases hr4 : resAll ρ3 as3 with
                  | none => rw [hr4] at p; exact p.elim
                  | some ds4 =>
                    rw [hr4] at p
                    simp only [Option.bind_some] at p
                    have rp4 := hs4.rp e4 hr4
                    match ds4, ws, rp4 with
                    | [], [], .nil => exact p.elim
                    | [z], [w], .cons rw4 .nil =>
                      dsimp only at p
                      cases hg : g [y, z] with
                      | none => rw [hg] at p; exact p.elim
                      | some d4 =>
                        rw [hg] at p
                        have ry4 : R K (bl (pl B0 s4) S4) H4 vy y [] := by
                          have := held (B0 := B0) (s := []) (by rw [pl_nil]; exact e2) (by rw [pl_nil]; exact ry2) t4
                          rw [pl_nil] at this
                          exact this
                        refine o' _ H4 [vy, w] [y, z] d4 Q (fun a q => e4.tr q) (.cons ry4 (.cons rw4 .nil)) hg fun v5 H5 s5 m5 r5 n5 f5 => ?_
                        refine p v5 H5 S4 s5 (e4.less.grow m5 f5 fun a m' => r5.trk a m') (r5.mono (fun _ _ q _ => q) fun a o _ n z => ?_) n5 (fun a m' z => ?_) ((t2.trans (t4.trans (Step.grow m5 f5))).sub fun a m' => List.mem_append_right _ (List.mem_append_right _ m'))
                        · rcases z with (z | z) | ⟨i, z⟩
                          · exact n (.inl (.inl (.inl z)))
                          · exact n (.inr z)
                          · exact n (.inl (.inr ⟨i, z⟩))
                        · obtain ⟨o', ho⟩ := e4.tb a (.inl z)
                          rw [f5 a m'] at ho
                          cases ho
                    | _ :: _ :: _, _ :: _ :: _, .cons _ (.cons _ _) => exact p.elim
            | _ => exact p.elim
      · exact p.elim
    · exact p.elim
/-! ### a, b = x, y -/
def two (i j : Nat) (q : Env × List Arg) : Out (Env × Ctl) := match q.2 with
  | [.val a, .val b] => if i < q.1.length ∧ j < q.1.length ∧ i ≠ j then .ok ((q.1.set i (some a)).set j (some b), .nx) else .bad
  | _ => .bad
def vPar (i j : Nat) (F G : VE) : VS := fun ρ => (vCons (vVal F) (vCons (vVal G) vNil) ρ).bind (two i j)
theorem sv_par {i j : Nat} {ta tb : TE} {F G : VE} (ha : EV K E ta F) (hb : EV K E tb G) : SV K E [i, j] (tPar i j (tCons ta (tCons tb tNil))) (vPar i j F G) := fun B0 σ H ρ S D e p => by
  refine al_cons (ar_val ha) (al_cons (ar_val hb) al_nil) B0 σ H ρ S _ e ?_
  unfold vPar at p
  cases hA : vCons (vVal F) (vCons (vVal G) vNil) ρ with
  | bad => rw [hA] at p; exact p.elim
  | exc ρ' x =>
    rw [hA] at p
    exact fun H' S' dd e r u => p σ H' S' dd e r u Fr.refl
  | ok q =>
    obtain ⟨ρ1, as⟩ := q
    rw [hA] at p
    rw [Out.bind_ok] at p
    intro vs H1 S1 s1 e1 hs n1 a1 t1
    unfold two at p
    split at p
    · rename_i a b e0
      dsimp only at e0
      subst e0
      dsimp only at p
      split at p
      · rename_i hc
        obtain ⟨hi, hj, hij⟩ := hc
        cases hs with
        | val ra hs =>
          cases hs with
          | val rb hs =>
            cases hs
            rename_i va sa vb sb
            rw [List.append_nil] at *
            obtain ⟨na, nb, nab⟩ := List.nodup_append.mp n1
            refine ⟨va, vb, rfl, ?_⟩
            rw [pl_app] at e1 ra rb
            have e2 := e1.put rb nb (fun x m z => z.elim (a1 x (List.mem_append_right _ m)) fun z => nab x z x m rfl) hj
            have ra2 : R K (bl (pl B0 sa) (sset S1 j sb)) H1 va a sa := ra.mono (fun _ _ q _ => q) fun x _ _ n z => n (by
              rcases z with z | ⟨k, z⟩
              · exact .inl (.inl z)
              · rcases sset_mem z with ⟨_, z⟩ | ⟨_, z⟩
                · exact .inl (.inr z)
                · exact .inr ⟨k, z⟩)
            have e3 := e2.put ra2 na (fun x m => a1 x (List.mem_append_left _ m)) (i := i) (by rw [List.length_set]; exact hi)
            rw [List.set_comm _ _ hij.symm, List.set_comm _ _ hij.symm] at e3
            refine p _ H1 _ e3 ⟨t1.keep, fun x h => t1.own x ?_⟩ fun k n => ?_
            · rcases h with ⟨k, h⟩ | h
              · rcases sset_mem h with ⟨_, h⟩ | ⟨_, h⟩
                · exact .inr (List.mem_append_left _ h)
                · rcases sset_mem h with ⟨_, h⟩ | ⟨_, h⟩
                  · exact .inr (List.mem_append_right _ h)
                  · exact .inl ⟨k, h⟩
              · cases h
            · rw [List.getElem?_set_ne (fun z => n (by simp [z])), List.getElem?_set_ne (fun z => n (by simp [z]))]
      · exact p.elim
    · exact p.elim
/-! ### * , - -/
def uMul (K : PySem.W.Frag) : R2 := fun x y H Q => rI CMulW (fun i j => V.int (i * j)) x y H Q ∨ (rRep x y H Q ∨ rMulS x y H Q)
theorem u_mul {X : Cx} : OpR X (binaryOp .Mult) (uMul X.K) := op_mulW.or (op_rep.or op_mulS)
theorem mulOk {z : Str} {n : Int} (hz : z.length ≤ 1000) (h0 : 0 ≤ n) (h1 : n ≤ 1000) : MulOk z n := by
  refine ⟨?_, fun a b => ?_, fun a b => ?_⟩
  · rw [Bool.or_eq_false_iff]
    exact ⟨decide_eq_false (by omega), decide_eq_false (by omega)⟩
  · have : 1000 ≤ (2 ^ 63 - 1) / n := (Int.le_ediv_iff_mul_le (by omega)).mpr (by omega)
    omega
  · show decide (z.length * n.toNat > sizeLine) = false
    have e : (1000000 : Nat) ≤ sizeLine := by decide
    have : z.length * n.toNat ≤ 1000 * 1000 := Nat.mul_le_mul hz (by omega)
    exact decide_eq_false (by omega)
theorem Rs.flat {vs : List V} {ds : List D} (t : Rs K B H vs ds []) : ∀ n, Rs K B H (List.replicate n vs).flatten (List.replicate n ds).flatten []
  | 0 => .nil
  | n + 1 => by
    rw [List.replicate_succ, List.replicate_succ, List.flatten_cons, List.flatten_cons]
    exact t.app (t.flat n)
theorem o_mul : OPS K (r2 (uMul K)) fMul := by
  intro B H vs ds d Q hB hr hf q
  match ds, hr, hf with
  | [.int i, .int j], .cons .int (.cons .int .nil), e =>
    simp only [fMul] at e
    split at e
    · rename_i c
      cases e
      exact .inl ⟨i, j, rfl, rfl, c, q.int⟩
    · cases e
  | [.lst o xs, .int k], .cons r (.cons .int .nil), e =>
    simp only [fMul] at e
    split at e
    · rename_i c
      cases e
      simp only [Bool.and_eq_true, decide_eq_true_eq] at c
      obtain ⟨c1, c2, c3, c4⟩ := c
      obtain ⟨p, ws, rfl, hp, t⟩ := r.lst c1
      exact .inr (.inl ⟨p, k, ws, rfl, rfl, hp, by omega, by omega, by rw [t.len]; exact Nat.le_trans c4 lim, fun u nu => Res.lst q (t.flat _) nu⟩)
    · cases e
  | [.str z, .int k], .cons .str (.cons .int .nil), e =>
    simp only [fMul] at e
    split at e
    · rename_i c
      cases e
      exact .inr (.inr ⟨z, k, rfl, rfl, mulOk c.1 c.2.1 c.2.2, q.str⟩)
    · cases e
def fNeg : List D → Option D
  | [.int i] => some (.int (-i))
  | _ => none
theorem o_neg : OPS K (r1 (rU fun i => V.int (-i))) fNeg := by
  intro B H vs ds d Q hB hr hf q
  match ds, hr, hf with
  | [.int i], .cons .int .nil, e => cases e; exact ⟨i, rfl, q.int⟩
end EV

set_option Elab.async false
set_option linter.all false
set_option maxRecDepth 100000
set_option maxHeartbeats 2000000
set_option pp.maxSteps 300
/-! SD: sorted of data of any depth; of a dict's tuple keys. -/
namespace L2
open PySem PySem.Spec PyProof.Rows PySem.W
mutual
theorem reads_mem {h : Heap} : ∀ {v : Value} {d : PyData} {as : List Addr}, Reads h v d as → ∀ x ∈ as, ∃ o, h.get? x = some o
  | _, _, _, .none, _, m => nomatch m
  | _, _, _, .bool _, _, m => nomatch m
  | _, _, _, .int _ _, _, m => nomatch m
  | _, _, _, .str _ _, _, m => nomatch m
  | _, _, _, .list h1 _ _ r, x, m => (List.mem_cons.mp m).elim (fun e => e ▸ ⟨_, h1⟩) fun m => readsAll_mem r x m
  | _, _, _, .tuple _ _ _ r, x, m => readsAll_mem r x m
  | _, _, _, .dict h1 _ _ r r', x, m => by
    rcases List.mem_append.mp m with m | m
    · exact (List.mem_cons.mp m).elim (fun e => e ▸ ⟨_, h1⟩) fun m => readsAll_mem r x m
    · exact readsAll_mem r' x m
theorem readsAll_mem {h : Heap} : ∀ {vs : List Value} {ds : List PyData} {as : List Addr}, ReadsAll h vs ds as → ∀ x ∈ as, ∃ o, h.get? x = some o
  | _, _, _, .nil, _, m => nomatch m
  | _, _, _, .cons r t, x, m => (List.mem_append.mp m).elim (fun m => reads_mem r x m) fun m => readsAll_mem t x m
end
theorem each_rel {β : Type} {f : β → V} : ∀ {bs : List β} {us : List Value}, Vals (bs.map f) us → EachIs (fun u b => RelV (f b) u) us bs
  | [], _, .nil => .nil
  | _ :: _, _, .cons r t => .cons r (each_rel t)
theorem rel_each {β : Type} {f : β → V} : ∀ {bs : List β} {us : List Value}, EachIs (fun u b => RelV (f b) u) us bs → Vals (bs.map f) us
  | _, _, .nil => .nil
  | _, _, .cons r t => .cons r (rel_each t)
/-- sorted(xs), xs a list of alike data -/
def rSortedD (K : PySem.W.Frag) : List V → Hp → VK → Prop := fun xs H Q => ∃ (a : Addr) (bs : List (V × PyData)), xs = [.ref a] ∧ SqL K H a (bs.map (·.1)) ∧ (∀ b ∈ bs, Dp K H b.1 b.2) ∧ AllAlike (bs.map (·.2)) ∧ Sortable (bs.map (·.2)) ∧ (∀ b ∈ bs, b.2.depth ≤ 50) ∧
  ∀ p, H p = none → Q (.ref p) (upd H p (.lst ((bs.mergeSort (dataLe false (·.2))).map (·.1))))
section
variable {X : Cx}
theorem each_reads {pins : List (Addr × Obj)} {σ : St} {H : Hp} {s : Shared} (I : Inv X pins σ H s) : ∀ {bs : List (V × PyData)} {us : List Value}, Vals (bs.map (·.1)) us → (∀ b ∈ bs, Dp X.K H b.1 b.2) → EachIs (fun u (b : V × PyData) => ∃ as, Reads s.heap u b.2 as) us bs
  | [], _, .nil, _ => .nil
  | b :: bs, _, .cons r t, h => .cons (Dp.reads I b.2 _ _ (h b List.mem_cons_self) r) (each_reads I t fun b m => h b (List.mem_cons_of_mem _ m))
theorem cr_sortedD (hu : X.A.units + 64 < cLine) : CallR X (.builtin "sorted") (rSortedD X.K) := by
  intro pins s σ H xs us Q I r h
  obtain ⟨a, bs, rfl, hs, hd, hal, hk, hz, q⟩ := h
  rw [Vals.ref1 r]
  obtain ⟨its, rv, hl, hsz⟩ := I.list hs
  rw [List.length_map] at hsz
  refine sorted_data (R := fun u (b : V × PyData) => RelV b.1 u) (enc := (·.2)) hl.isList (each_rel rv) (each_reads I rv hd) hal hk hsz (fun b m => ?_) fun out ho eo => ?_
  · have := hz b m
    omega
  · have v := rel_each eo
    obtain ⟨ep, he⟩ := sortedAll_at s.heap its out.toArray
    refine ⟨.ref (s.heap.objs.size + 1), _, I.laid (t' := s.toks) (o := .lst ((bs.mergeSort (dataLe false (·.2))).map (·.1))) (fun _ _ => sortedAll_old) (Nat.le_succ _) ⟨?_, out, ep, v, he⟩, rfl, q _ (I.hok.fresh (Nat.le_succ _))⟩
    rw [List.length_map, (List.mergeSort_perm bs _).length_eq]
    exact hsz
end
/-! ### sorted(d), the keys of d tuples -/
section
variable {prog : Program} {w : World} {A : Around} {E : Value → Shared → Prop} {s : Shared} {T : String} {r d : Addr} {n : Nat} {P : Nat → Value → Prop} {OK : Heap → Prop}
theorem collect_kdl {Q : List Value → Shared → Prop} (Kd : KdlSrc prog w T r d n P OK) (hh : A.handled = none) (hok : OK s.heap) (hn : n ≤ sizeLine)
    (hQ : ∀ (h' : Heap) (tk : Nat) (acc : Array Value), (∀ b o, s.heap.get? b = some o → h'.get? b = some o) → s.heap.objs.size < h'.objs.size → ItemsOf P acc n → Q acc.toList { s with heap := h', toks := tk }) :
    wpAny (model prog w) A (collect (.ref r)) Q E s := by
  obtain ⟨hr, hd⟩ := Kd.there _ hok
  unfold collect
  refine wpAny_bind (wpAny_runValue (codeAny_builtin F.entry_proto_collect ?_))
  rw [Around.under_plainId F.plain_proto_collect _]
  show wpAny _ A.in1 (newList [] >>= fun l => again (.builtin "list.__iadd__" ⟨[l, .ref r], []⟩)) _ _ s
  refine wpAny_bind (wpAny_newObj_type ?_)
  refine wpAny_pure ⟨plainId_quiet F.plain_list_iadd _, codeAny_builtin F.entry_list_iadd ?_⟩
  rw [Around.under_plainId F.plain_list_iadd _]
  show wpAny _ A.in1 (Builtin.List.listExtendWith (.ref s.heap.objs.size) (.ref r) (.ref s.heap.objs.size)) _ _ _
  have hS : (s.heap.push { cls := .type "list", data := .seq ([] : List Value).toArray }).get? s.heap.objs.size = some { cls := .type "list", data := .seq #[] 0 } := Heap.get?_push_size _ rfl
  have ext := kdl_extend (A := A) (R := fun rr s' => rr = .ok (.ret (.ref s.heap.objs.size)) ∧ ∃ (h' : Heap) (tk : Nat) (acc : Array Value) (c' : Nat), s' = { s with heap := h', toks := tk } ∧
      (∀ b o, s.heap.get? b = some o → h'.get? b = some o) ∧ h'.get? s.heap.objs.size = some { cls := .type "list", dict := none, data := .seq acc c', slots := #[] } ∧ ItemsOf P acc n)
    (s := { s with heap := s.heap.push { cls := .type "list", data := .seq ([] : List Value).toArray } }) Kd hh (Kd.keep _ _ hok fun b _ o e => Heap.get?_push_of_some _ e) s.heap.objs.size (Nat.ne_of_gt hr) (Nat.ne_of_gt hd) (.ref s.heap.objs.size) 0 hS
    (fun h' tk acc c' hk e hi => ⟨rfl, h', tk, acc, c', rfl, fun b o q => hk b o (Nat.ne_of_lt (Heap.lt_size q)) (Heap.get?_push_of_some _ q), e, hi⟩) hn
  refine wpAny_mono ext (fun fin s' h => ?_) (fun e s' h => ?_)
  · cases fin with
    | done f =>
      obtain ⟨e, h', tk, acc, c', rfl, hk, hS', hi⟩ := h
      cases e
      show wpAny _ A (load s.heap.objs.size >>= _) _ _ _
      exact wpAny_bind (wpAny_load hS' (wpAny_pure (hQ h' tk acc hk (Heap.lt_size hS') hi)))
    | again c' =>
      refine ⟨h.1, codeAny_mono h.2 fun rr s'' hr' => ?_⟩
      obtain ⟨rfl, h', tk, acc, c', rfl, hk, hS', hi⟩ := hr'
      show wpAny _ A (load s.heap.objs.size >>= _) _ _ _
      exact wpAny_bind (wpAny_load hS' (wpAny_pure (hQ h' tk acc hk (Heap.lt_size hS') hi)))
  · exact absurd h.1 (by simp)
theorem sorted_kdl {Q : Value → Shared → Prop} (Kd : KdlSrc prog w T r d n P OK) (hh : A.handled = none) (hok : OK s.heap) (hn : n ≤ sizeLine)
    (h : ∀ (h' : Heap) (tk : Nat) (acc : Array Value), (∀ b o, s.heap.get? b = some o → h'.get? b = some o) → s.heap.objs.size < h'.objs.size → ItemsOf P acc n →
      wpAny (model prog w) A.in1 (call (.builtin "list.sort") [.ref h'.objs.size]) (fun _ s' => Q (.ref h'.objs.size) s') E { s with heap := h'.push { cls := .type "list", data := .seq acc.toList.toArray }, toks := tk }) :
    wpAny (model prog w) A (call (.builtin "sorted") [.ref r]) Q E s := by
  refine Calls.call_function_entry kind_sorted plain_sorted entry_sorted (args_sorted1 _) ?_
  unfold Builtin.«sorted»
  refine wpAny_bind (m := checkCount "sorted" 1 1 _) (wpAny_pure ?_)
  refine wpAny_bind (collect_kdl (A := A.in1) Kd hh hok hn fun h' tk acc hk hlt hi => ?_)
  refine wpAny_bind (wpAny_newList ?_ (by rw [Array.length_toList, hi.1]; exact hn))
  have hg := h h' tk acc hk hlt hi
  refine wpAny_bind (wpAny_holding (wpAny_mono hg (fun _ s' x => ?_) fun _ _ e => e))
  exact wpAny_pure ⟨_, rfl, x⟩
end
def keyP : Key → PyData
  | .inl i => .int i
  | .inr x => .str x
abbrev ktP (k : List Key) : PyData := .tuple (k.map keyP)
theorem dp_keys {K : PySem.W.Frag} {H : Hp} : ∀ k : List Key, DpAll K H (k.map kV) (k.map keyP)
  | [] => .nil
  | .inl i :: k => .cons (.int i) (dp_keys k)
  | .inr x :: k => .cons (.str x) (dp_keys k)
/-- sorted(d): a new list of the key tuples -/
def rSortedT : List V → Hp → VK → Prop := fun xs H Q => ∃ (d : Addr) (kvs : List (List Key × V)), xs = [.ref d] ∧ Rd H d (.dT kvs) ∧ AllAlike (kvs.map fun p => ktP p.1) ∧ Sortable (kvs.map fun p => ktP p.1) ∧
  ∀ p (bs : List (Addr × List Key)), H p = none → bs.map (·.2) = kvs.map (·.1) → (∀ b ∈ bs, H b.1 = some (.tup (b.2.map kV))) → Q (.ref p) (upd H p (.lst ((bs.mergeSort (dataLe false fun b => ktP b.2)).map fun b => V.ref b.1)))
theorem kt_split {H : Hp} : ∀ {kvs : List (List Key × V)} {xs : List (List Key × Addr × Value)}, KT H kvs xs → (xs.map fun x => (x.2.1, x.1)).map (·.2) = kvs.map (·.1) ∧ ∀ b ∈ xs.map (fun x => (x.2.1, x.1)), H b.1 = some (.tup (b.2.map kV))
  | _, _, .nil => ⟨rfl, fun _ m => nomatch m⟩
  | _, _, .cons h t => by
    obtain ⟨h1, h2⟩ := kt_split t
    refine ⟨by rw [List.map_cons, List.map_cons, List.map_cons, h1, h.1], fun b m => ?_⟩
    rw [List.map_cons] at m
    rcases List.mem_cons.mp m with e | m
    · subst e
      show H _ = some (.tup (List.map kV _))
      rw [← h.1]
      exact h.2.1
    · exact h2 b m
section
variable {X : Cx}
theorem cr_sortedT (hc : X.calm = true) (hu : X.A.units + 64 < cLine) : CallR X (.builtin "sorted") rSortedT := by
  intro pins s σ H xs us Q I r h
  obtain ⟨d, kvs, rfl, hd, hal, hk, q⟩ := h
  rw [Vals.ref1 r]
  obtain ⟨z, hs, ks, pr, o, es, ep, ho, hx, hdt, he, hn⟩ := (show ObjOk X.prog X.w H s.heap d (.dT kvs) from hd.ok I.hok)
  have l1 : es.size = ks.length := size_of_entries he
  have l2 : kvs.length = ks.length := Paired.length pr
  refine sorted_kdl (kdl_raw hs hx hdt) (I.ok.hd hc) ho (by omega) fun h' tk acc kp hlt it => ?_
  obtain ⟨k1, k2⟩ := kt_split pr
  generalize hbs : ks.map (fun x => (x.2.1, x.1)) = bs at k1 k2
  have lb : bs.length = ks.length := by rw [← hbs, List.length_map]
  have eb : acc.toList = bs.map fun b => Value.ref b.1 := by
    have hl : acc.toList.length = ks.length := by rw [Array.length_toList, it.1]; exact l1
    rw [← hbs, List.map_map]
    apply List.ext_getElem?
    intro j
    rw [List.getElem?_map]
    cases hj : acc.toList[j]? with
    | none =>
      have h1 := List.getElem?_eq_none_iff.mp hj
      rw [List.getElem?_eq_none (by omega)]
      all_goals rfl
    | some v =>
      obtain ⟨en, hen, hv⟩ := it.2 j v (by rw [← Array.getElem?_toList]; exact hj)
      have qe := entry_at he j
      rw [hen] at qe
      cases hb : ks[j]? with
      | none =>
        rw [hb] at qe
        exact nomatch (show some en = none from qe)
      | some b =>
        rw [hb] at qe
        have e2 : en = entryOfKey (tupleKind (mixKind X.prog X.w)) b := Option.some.inj qe
        rw [hv, e2]
        all_goals rfl
  have I1 : Inv X pins σ H { s with heap := h', toks := tk } := I.kept kp
  have hob : (h'.push { cls := .type "list", data := .seq acc.toList.toArray }).get? h'.objs.size = some (seqObj "list" acc.toList.toArray 0) := Heap.get?_push_size _ rfl
  have hm : bs.map (fun b => ktP b.2) = kvs.map fun p => ktP p.1 := by
    have : bs.map (fun b => ktP b.2) = (bs.map (·.2)).map ktP := by rw [List.map_map]; rfl
    rw [this, k1, List.map_map]
    rfl
  have each : ∀ {l : List (Addr × List Key)}, (∀ b ∈ l, H b.1 = some (.tup (b.2.map kV))) → EachIs (fun u (b : Addr × List Key) => ∃ as, Reads (h'.push { cls := .type "list", data := .seq acc.toList.toArray }) u (ktP b.2) as ∧ h'.objs.size ∉ as) (l.map fun b => Value.ref b.1) l := fun {l} => by
    induction l with
    | nil => intro _; exact .nil
    | cons b l ih =>
      intro hb
      refine .cons ?_ (ih fun c m => hb c (List.mem_cons_of_mem _ m))
      obtain ⟨as, ra⟩ := Dp.reads I1 (ktP b.2) (.ref b.1) (.ref b.1) (.tup (.inl (.inl (hb b List.mem_cons_self))) (dp_keys _)) rfl
      refine ⟨as, PyProof.Rows.Reads.keeps (fun c o e => Heap.get?_push_of_some _ e) ra, fun m => ?_⟩
      obtain ⟨o, ho⟩ := reads_mem ra _ m
      exact absurd (Heap.lt_size ho) (Nat.lt_irrefl _)
  have depth : ∀ b ∈ bs, (ktP b.2).depth ≤ 50 := fun b _ => by
    have : ∀ k : List Key, PyData.depthAll (k.map keyP) = 0 := fun k => by
      induction k with
      | nil => simp [PyData.depthAll]
      | cons x k ih =>
        rw [List.map_cons, PyData.depthAll, ih]
        cases x <;> simp [keyP, PyData.depth]
    show PyData.depth (.tuple (b.2.map keyP)) ≤ 50
    rw [PyData.depth, this]
    omega
  refine list_sort_data (s := { s with heap := h'.push { cls := .type "list", data := .seq acc.toList.toArray }, toks := tk }) (R := fun u (b : Addr × List Key) => RelV (V.ref b.1) u) (enc := fun b : Addr × List Key => ktP b.2) (bs := bs) (vs := acc.toList) hob ?_ ?_ (by rw [hm]; exact hal) (by rw [hm]; exact hk) (by omega) (fun b m => ?_) fun out hlen eo => ?_
  · rw [eb]
    refine each_rel ?_
    have : ∀ l : List (Addr × List Key), Vals (l.map fun b => V.ref b.1) (l.map fun b => Value.ref b.1) := fun l => by
      induction l with
      | nil => exact .nil
      | cons b l ih => exact .cons rfl ih
    exact this bs
  · have := each k2
    rw [eb]
    rw [eb] at this
    exact this
  · have := depth b m
    have e : X.A.in1.units ≤ X.A.units + 1 := by first | exact Nat.le_refl _ | exact Nat.le_succ _ | simp [Around.in1]
    omega
  · have v := rel_each eo
    obtain ⟨ep', he'⟩ := sortedHeap_at (out := out.toArray) hob
    refine ⟨.ref h'.objs.size, _, I1.laid (t' := tk) (a := h'.objs.size) (o := .lst ((bs.mergeSort (dataLe false fun b => ktP b.2)).map fun b => V.ref b.1)) (fun b u e => ?_) (Nat.le_refl _) ⟨?_, out, ep', v, he'⟩, rfl, q _ bs (I1.hok.fresh (Nat.le_refl _)) k1 k2⟩
    · have hlt' : b < h'.objs.size := Heap.lt_size e
      rw [sortedHeap_old (Nat.ne_of_lt hlt') (by rw [Heap.size_push]; exact Nat.lt_succ_of_lt hlt')]
      exact Heap.get?_push_of_some _ e
    · rw [List.length_map, (List.mergeSort_perm bs _).length_eq]
      omega
end
end L2

set_option Elab.async false
set_option linter.all false
set_option maxRecDepth 100000
set_option maxHeartbeats 2000000
set_option pp.maxSteps 300
/-! SE: dict comprehensions whose keys are of any kind: o0 the empty dict's record, st what is known of a store. -/
namespace L2
open PySem PySem.Spec PyProof.Rows PySem.W
abbrev StT := Addr → V → V → Hp → (Hp → Prop) → Prop
/-- a store rule: D[u] = r by a comprehension -/
def StR (X : Cx) (st : StT) : Prop := ∀ (pins : List (Addr × Obj)) (σ : St) (H : Hp) (s : Shared) (E : Value → Shared → Prop) (D : Addr) (y z : V) (u r : Value) (Nx : Hp → Prop) (Q : Unit → Shared → Prop), Inv X pins σ H s → st D y z H Nx → RelV y u → RelV z r →
  (∀ s' H', Inv X pins σ H' s' → Nx H' → Q () s') → wpAny (model X.prog X.w) X.A (dictSet D u r) Q E s
def tDcG (o0 : HO) (st : StT) (wi : TI) (g : TG) (tt : TT) (tk tv : TE) (vs : List Nat) : TE := fun σ H Q => wi σ H fun J H1 => ∀ D, H1 D = none → ∃ W : Nat → Nat → Hp → Prop, (∃ m, W 0 m (upd H1 D o0)) ∧ ∀ i m H, W i m H →
  (J.stop i H ∧ Q (.ref D) H) ∨ (J.go i H ∧ ∃ Nx : Hp → Prop, (∀ H', Nx H' → ∃ m', m' < m ∧ W (i + 1) m' H') ∧ ∀ x H', J.yld i H x H' → g x (wipe σ vs) H' fun σ2 H2 => wipe σ2 vs = wipe σ vs ∧ tt σ2 H2 fun b H3 =>
    if b = true then tk σ2 H3 fun y H4 => tv σ2 H4 fun z H5 => st D y z H5 Nx else Nx H3)
section
variable {X : Cx}
theorem pe_dcG {o0 : HO} {st : StT} {kx vx tg iter : Expr} {ifs : List Expr} {scope : Scope} {own : List (Str × Nat)} {pos : Pos} {wi : TI} {g : TG} {tt : TT} {tk tv : TE}
    (ho0 : ∀ (H : Hp) (h : Heap), sysModules < h.objs.size → ObjOk X.prog X.w H (h.push { cls := .type "dict", data := .dict #[] }) h.objs.size o0)
    (hst : ∀ (s : Shared) (H : Hp) (C : Addr) (cl : List (Str × Addr)) (fp : List Addr), StR (X.blk s H scope (compEnvC scope cl C X.env) fp) st)
    (hc : X.calm = true) (hN : X.N.Nodup) (hi : PI X tg iter wi) (ok : BlkOk X.N X.env.scope scope own)
    (hg : ∀ (s : Shared) (H : Hp) (C : Addr) (cl : List (Str × Addr)) (fp : List Addr), PG (X.blk s H scope (compEnvC scope cl C X.env) fp) tg g) (ht : ∀ (s : Shared) (H : Hp) (C : Addr) (cl : List (Str × Addr)) (fp : List Addr), PTs (X.blk s H scope (compEnvC scope cl C X.env) fp) ifs tt)
    (hk : ∀ (s : Shared) (H : Hp) (C : Addr) (cl : List (Str × Addr)) (fp : List Addr), PE (X.blk s H scope (compEnvC scope cl C X.env) fp) kx tk)
    (he : ∀ (s : Shared) (H : Hp) (C : Addr) (cl : List (Str × Addr)) (fp : List Addr), PE (X.blk s H scope (compEnvC scope cl C X.env) fp) vx tv) (hs : ∀ x, foldedSetIterable iter X.env x = pure x := by intro _; rfl) :
    PE X (.DictComp kx vx [⟨tg, iter, ifs, 0⟩] scope pos) (tDcG o0 st wi g tt tk tv (own.map (·.2))) := by
  refine ⟨fun pins s σ H Q I h => ?_⟩
  rw [arm_eval_DictComp]
  have hfree : ∀ y ∈ scope.names, y.2 = .free → ∃ c, X.env.cells.lookup y.1 = some c := fun y hy e => (ok.free y hy e).elim (fun k => I.ok.has _ (.inl k)) fun k => I.ok.has _ (.inr k)
  refine wpAny_comprehension_free rfl hs (closure_ok hfree) ok.kind (fun y hy e => by rw [ok.uniq y hy, e]) (thn (hi.run pins s σ H _ I h) fun xv s1 hx => thn hx fun itv s2 h2 => ?_)
  obtain ⟨it, fp, tn, J, H2, e, I2, Tr, st2, f2, q⟩ := h2
  subst e
  refine wpAny_newObj_type (newEnv_comp ?_)
  generalize hD : s2.heap.objs.size = D
  obtain ⟨W, ⟨m0, w0⟩, turn⟩ := q D (I2.hok.fresh (Nat.le_of_eq hD))
  generalize hs3 : ({ s2 with heap := s2.heap.push { cls := .type "dict", data := .dict #[] } } : Shared) = s3
  have h3 : s3.heap = s2.heap.push { cls := .type "dict", data := .dict #[] } := by rw [← hs3]
  have I3 : Inv X pins σ (upd H2 D o0) s3 := by
    rw [← hs3]
    refine I2.laid (t' := s2.toks) (fun b o e => Heap.get?_push_of_some _ e) (Nat.le_of_eq hD) ?_
    rw [← hD]
    exact ho0 _ s2.heap I2.big
  have f3 : ∀ b ∈ fp, FpOk X pins (upd H2 D o0) b ∧ b < s3.heap.objs.size := fun b hb => by
    obtain ⟨o, e, _⟩ := Tr.obj _ _ st2 b hb
    have hlt := Heap.lt_size e
    refine ⟨⟨?_, (f2 b hb).2⟩, by rw [h3, Heap.size_push]; exact Nat.lt_succ_of_lt hlt⟩
    rw [upd_ne (by rw [← hD]; exact Nat.ne_of_lt hlt)]
    exact (f2 b hb).1
  have st3 : tn 0 s3.heap := Tr.keep _ _ _ st2 fun b _ o e => by rw [h3]; exact Heap.get?_push_of_some _ e
  have I4 := block_start I3 ok hN f3
  generalize hcl : cellsFrom (s3.heap.objs.size + 1) scope.names (cloFrom X.env.cells scope.names []) = cl at I4
  have pg := hg s3 (upd H2 D o0) s3.heap.objs.size cl fp
  have pt := ht s3 (upd H2 D o0) s3.heap.objs.size cl fp
  have pk := hk s3 (upd H2 D o0) s3.heap.objs.size cl fp
  have pe := he s3 (upd H2 D o0) s3.heap.objs.size cl fp
  have ps := hst s3 (upd H2 D o0) s3.heap.objs.size cl fp
  have nfp : ∀ b ∈ fp, (upd H2 D o0) b = none := fun b hb => (f3 b hb).1.1
  show codeAny _ _ (.compStart (.DictComp kx vx [⟨tg, iter, ifs, 0⟩] scope pos) 0 (.ref it) (.ref D) (compEnvC scope cl s3.heap.objs.size X.env)) (compPost (model X.prog X.w) X.A X.xe none (EP X pins σ Q) (.ref D) s3.heap.objs.size) { s3 with heap := pushCells (s3.heap.push { cls := .type "dict", data := .dict #[] }) scope.names }
  generalize hce : compEnvC scope cl s3.heap.objs.size X.env = ce at I4 pg pt pk pe ps ⊢
  have cL : ce.locals = s3.heap.objs.size := by subst hce; rfl
  generalize hH3 : upd H2 D o0 = H3 at I3 I4 pg pt pk pe ps w0 nfp f3
  generalize hs4 : ({ s3 with heap := pushCells (s3.heap.push { cls := .type "dict", data := .dict #[] }) scope.names } : Shared) = s4 at I4 ⊢
  have st4 : tn 0 s4.heap := Tr.keep _ _ _ st3 fun b _ o e => by rw [← hs4]; exact pushCells_keeps _ _ _ _ (Heap.get?_push_of_some _ e)
  have stat : ∀ {σ' : St} {H' : Hp} {s' : Shared}, Inv (X.blk s3 H3 scope ce fp) [] σ' H' s' → (∀ b ∈ fp, H' b = none) → ∀ b ∈ fp, FpOk (X.blk s3 H3 scope ce fp) [] H' b := fun {σ' H' s'} I' hn b hb =>
    ⟨hn b hb, (I'.ok.exf b hb).1, I'.ok.exfs b hb, .inl hb, fun x c e => (I'.ok.exf b hb).2 x c e, fun p hp => absurd (show p ∈ ([] : List (Addr × Obj)) ++ [] from hp) (by simp)⟩
  refine codeAny_compStart_dict ?loop (Tr.self X.A 0 _ _ _ st4 ?loop)
  refine compLoop_anyD (fun n s' => ∃ i H', Inv (X.blk s3 H3 scope ce fp) [] (wipe σ (own.map (·.2))) H' s' ∧ tn i s'.heap ∧ (∀ b ∈ fp, H' b = none) ∧ W i n H') ?_ m0 ⟨0, H3, I4, st4, nfp, w0⟩
  rintro n s5 ⟨i, H5, I5, st5, n5, w5⟩
  rcases turn i n H5 w5 with ⟨stop, qq⟩ | ⟨go, Nx, hNx, step⟩
  · have td := Tr.done (X.blk s3 H3 scope ce fp) rfl rfl rfl hc i [] s5 _ H5 (fun _ _ => False) I5 (stat I5 n5) st5 stop
    refine thnF td fun r s6 ⟨hr, I6⟩ => ?_
    subst hr
    have I7 : Inv X pins σ H5 s6 := I3.call' (ch := fp) I6.os I6.base I6.hok I6.bare fun b hb => ⟨(f3 b hb).1.2.2.2.1, (f3 b hb).1.2.1, (f3 b hb).1.2.2.2.2.1, (f3 b hb).1.2.2.2.2.2⟩
    have nC : H5 s3.heap.objs.size = none := by
      have z : H5 ce.locals = none := I6.free
      rw [cL] at z
      exact z
    obtain ⟨m, hn, _⟩ := I6.loc
    have hn : s6.heap.Ns ce.locals m := hn
    rw [cL] at hn
    obtain ⟨f0, f1, f2', f3', f4, f5⟩ := I3.fpOk (Nat.le_refl _) nC
    exact ⟨m, hn, fun h'' sb => ⟨.ref D, H5, I7.turned (t' := s6.toks) (fun b o hb e => (sb.2 b hb).trans e) f0 f1 f3' f4 f5, rfl, qq⟩⟩
  · have ti := Tr.item (X.blk s3 H3 scope ce fp) rfl rfl rfl hc i [] s5 _ H5 (fun _ _ => False) I5 (stat I5 n5) st5 go
    refine thnF ti fun r s6 ⟨u, hr, h6⟩ => ?_
    subst hr
    refine thnF h6 fun _ s7 ⟨x, H7, I7, r7, y7, st7, n7⟩ => ?_
    have I7' := I7.pinned (stat I7 n7) (Tr.obj _ _ st7)
    refine thnF (pg.run _ s7 _ H7 x u _ I7' r7 (step x H7 y7)) fun _ s8 ⟨σ8, H8, I8, hw8, q8⟩ => ?_
    refine thnF (pt.run _ s8 σ8 H8 _ I8 q8) fun b s9 ⟨H9, I9, q9⟩ => ?_
    have fin : ∀ {s' : Shared} {H' : Hp}, Inv (X.blk s3 H3 scope ce fp) ([] ++ pinsAt fp s7.heap) σ8 H' s' → Nx H' → ∃ m, m < n ∧ ∃ i H', Inv (X.blk s3 H3 scope ce fp) [] (wipe σ (own.map (·.2))) H' s' ∧ tn i s'.heap ∧ (∀ b ∈ fp, H' b = none) ∧ W i m H' := fun {s' H'} I' nx => by
      obtain ⟨m', hm, w'⟩ := hNx H' nx
      have pin' : ∀ b ∈ fp, ∀ o, s7.heap.get? b = some o → s'.heap.get? b = some o ∧ H' b = none := fun b hb o e =>
        let z := I'.pin (b, o) (List.mem_append_right _ (List.mem_append_right _ (mem_pinsAt hb e)))
        ⟨z.1, z.2.1⟩
      have hl : (wipe σ (own.map (·.2))).length = σ8.length := by rw [← hw8, wipe_length]
      refine ⟨m', hm, i + 1, H', (I'.unpinned (pins := [])).weak hl (fun j v e => ?_), Tr.keep _ _ _ st7 fun b hb o e => (pin' b hb o e).1, fun b hb => ?_, w'⟩
      · rw [← hw8] at e
        exact (wipe_some e).1
      · obtain ⟨o, e, _⟩ := Tr.obj _ _ st7 b hb
        exact (pin' b hb o e).2
    cases b with
    | false =>
      simp only [Bool.false_eq_true, if_false] at q9 ⊢
      exact fin I9 q9
    | true =>
      simp only [if_true] at q9 ⊢
      refine thnF (pk.run _ s9 σ8 H9 _ I9 q9) fun z s10 ⟨yk, H10, I10, r10, q10⟩ => ?_
      refine thnF (pe.run _ s10 σ8 H10 _ I10 q10) fun z2 s11 ⟨yv, H11, I11, r11, q11⟩ => ?_
      exact ps _ σ8 H11 s11 _ D yk yv z z2 Nx _ I11 q11 r10 r11 fun s12 H12 I12 nx => fin I12 nx
/-! ### tuple keys -/
def stT : StT := fun D y z H Nx => ∃ kvs k b, y = .ref b ∧ H b = some (.tup (k.map kV)) ∧ H D = some (.dT kvs) ∧ kvs.length < sizeLine ∧ Nx (upd H D (.dT (putK kvs k z)))
theorem st_t (hu : X.A.units + 64 < cLine) : StR X stT := by
  intro pins σ H s E D y z u r Nx Q I h ry rz k
  obtain ⟨kvs, kk, b, rfl, eb, e, l, nx⟩ := h
  cases (show u = Value.ref b from ry)
  obtain ⟨zl, hd, xs, rel, dd⟩ := dt_of I.hok e
  have hz : xs.length ≤ sizeLine := by rw [← Paired.length rel]; exact zl
  have hl : (putK kvs kk z).length ≤ sizeLine := by have := length_putK kvs kk z; omega
  refine wpAny_dictSet_heap (hsz := hz) (show X.A.units < cLine by omega) (key_of I.hok eb) dd fun h' dd' hs => k _ _ ?_ nx
  obtain ⟨q, es, ep, hq, h2, h3, h4, _, h5⟩ := dd'
  refine d_write I (by rw [e]; exact True.intro) hs ⟨q, hq⟩ ⟨hl, hd, _, (rel.put kk eb rz).keeps fun c ys ec => ?_, q, es, ep, hq, h2, h3, h4, h5⟩
  rw [upd_ne (ne_of ec e (fun z => nomatch z))]
  exact ec
end
end L2

set_option Elab.async false
set_option linter.all false
set_option maxRecDepth 100000
set_option maxHeartbeats 1000000
/-! EVg: dicts with tuple keys, sorted, isinstance, texts, repr. -/
namespace L2
open PySem PySem.Spec PyProof.Rows
section
variable {X : Cx}
def rIxDG : R2 := fun x y H Q => ∃ a v, x = .ref a ∧ DGet H a y (some v) ∧ Q v H
theorem ix_dget (hu : X.A.units + 1 < cLine) : IxR X rIxDG := by
  intro value slice pins s σ H x y v u Q I rx ry h hs
  obtain ⟨a, r, rfl, g, q⟩ := h
  obtain rfl : v = Value.ref a := rx
  exact tail_any (dict_typeIs I g) PySem.F.slot_dict_getitem.lookup (d_getItem hu I g ry fun w' s3 I3 rw' => ⟨r, H, I3, rw', q⟩) hs
def rIxA (K : PySem.W.Frag) : R2 := fun x y H Q => rIx K x y H Q ∨ rIxDG x y H Q
theorem ix_any (hu : X.A.units + 64 < cLine) : IxR X (rIxA X.K) := ix_seq.or (ix_dget (by omega))
def rSortA (K : PySem.W.Frag) : List V → Hp → VK → Prop := fun xs H Q => rSortedD K xs H Q ∨ rSortedT xs H Q
theorem cr_sortA (hc : X.calm = true) (hu : X.A.units + 64 < cLine) : CallR X (.builtin "sorted") (rSortA X.K) := (cr_sortedD hu).or (cr_sortedT hc hu)
def rTupC (K : PySem.W.Frag) : List V → Hp → VK → Prop := fun xs H Q => ∃ x, xs = [x] ∧ kTup K x H Q
theorem cr_tup : CallR X (.type "tuple") (rTupC X.K) := by
  intro pins s σ H xs us Q I r h
  obtain ⟨x, rfl, k⟩ := h
  obtain ⟨u, rfl, rx⟩ := vals1 r
  exact rl_tuple pins s σ H x u Q I rx k
end
end L2
namespace EV
open PySem L2 PySem.W
variable {K : PySem.W.Frag} {B B' B0 B1 : Bs} {H H1 H2 H' : Hp} {σ σ' σ1 : St} {ρ ρ1 ρ2 ρ' : Env} {S S1 S2 S' : Nat → List Addr} {s s1 s2 : List Addr} {E : St → XK} {Q : VK}
/-! ### keys -/
def D.key : D → Option Key
  | .int i => some (.inl i)
  | .str x => some (.inr x)
  | _ => none
def keysD : List D → Option (List Key)
  | [] => some []
  | d :: ds => match d.key, keysD ds with
    | some k, some ks => some (k :: ks)
    | _, _ => none
theorem R.key {v : V} {d : D} {k : Key} (r : R K B H v d s) (h : d.key = some k) : v = kV k := by
  cases r <;> simp only [D.key, Option.some.injEq] at h <;> first | (cases h; done) | (subst h; rfl)
theorem Rs.keys : ∀ {vs ds S ks}, Rs K B H vs ds S → keysD ds = some ks → vs = ks.map kV
  | _, _, _, _, .nil, h => by cases h; rfl
  | _, d :: ds, _, ks, .cons r t, h => by
    unfold keysD at h
    cases e1 : d.key with
    | none => rw [e1] at h; cases h
    | some k =>
      cases e2 : keysD ds with
      | none => rw [e1, e2] at h; cases h
      | some ks' =>
        rw [e1, e2] at h
        cases h
        rw [r.key e1, t.keys e2]
        rfl
section
variable {κ : Type} [DecidableEq κ]
def valD (kvs : List (κ × D)) (k : κ) : Option D := (kvs.find? fun kv => decide (kv.1 = k)).map (·.2)
def putD (kvs : List (κ × D)) (k : κ) (v : D) : List (κ × D) := if (kvs.any fun kv => decide (kv.1 = k)) = true then kvs.map (fun kv => if kv.1 = k then (kv.1, v) else kv) else kvs ++ [(k, v)]
theorem Rs.val : ∀ {kv : List (κ × V)} {kd : List (κ × D)} {T : List Addr} {k : κ} {d : D}, kv.map (·.1) = kd.map (·.1) → Rs K B H (kv.map (·.2)) (kd.map (·.2)) T → valD kd k = some d → ∃ v S', valV kv k = some v ∧ R K B H v d S'
  | [], [], _, _, _, _, _, h => by simp [valD] at h
  | [], _ :: _, _, _, _, e, _, _ => by simp at e
  | _ :: _, [], _, _, _, e, _, _ => by simp at e
  | p :: kv, q :: kd, T, k, d, e, r, h => by
    rw [List.map_cons, List.map_cons] at r
    cases r with
    | cons r t =>
      injection e with e1 e2
      by_cases hk : q.1 = k
      · rw [valV_pos (e1.trans hk)]
        simp [valD, List.find?_cons, hk] at h
        subst h
        exact ⟨_, _, rfl, r⟩
      · rw [valV_neg (fun z => hk (e1.symm.trans z))]
        refine Rs.val e2 t (k := k) ?_
        simpa [valD, List.find?_cons, hk] using h
theorem any_keys {kv : List (κ × V)} {kd : List (κ × D)} {k : κ} (e : kv.map (·.1) = kd.map (·.1)) : (kv.any fun p => decide (p.1 = k)) = kd.any fun p => decide (p.1 = k) := by
  have h1 : (kv.any fun p => decide (p.1 = k)) = (kv.map (·.1)).any fun p => decide (p = k) := by rw [List.any_map]; rfl
  have h2 : (kd.any fun p => decide (p.1 = k)) = (kd.map (·.1)).any fun p => decide (p = k) := by rw [List.any_map]; rfl
  rw [h1, h2, e]
theorem put_rs {kv : List (κ × V)} {kd : List (κ × D)} {k : κ} {v : V} {d : D} (e : kv.map (·.1) = kd.map (·.1)) (r : Rs K B H (kv.map (·.2)) (kd.map (·.2)) []) (rv : R K B H v d []) :
    (putK kv k v).map (·.1) = (putD kd k d).map (·.1) ∧ Rs K B H ((putK kv k v).map (·.2)) ((putD kd k d).map (·.2)) [] := by
  unfold putK putD
  rw [any_keys e]
  split
  · constructor
    · rw [List.map_map, List.map_map]
      have f1 : ((fun x : κ × V => x.1) ∘ fun kv => if kv.1 = k then (kv.1, v) else kv) = (fun x : κ × V => x.1) := by funext x; dsimp only [Function.comp]; split <;> rfl
      have f2 : ((fun x : κ × D => x.1) ∘ fun kv => if kv.1 = k then (kv.1, d) else kv) = (fun x : κ × D => x.1) := by funext x; dsimp only [Function.comp]; split <;> rfl
      rw [f1, f2, e]
    · rename_i hcond
      clear hcond
      induction kv generalizing kd with
      | nil => cases kd with
        | nil => exact .nil
        | cons => simp at e
      | cons p kv ih => cases kd with
        | nil => simp at e
        | cons q kd =>
          injection e with e1 e2
          rw [List.map_cons] at r
          obtain ⟨d0, ds', hh, r1, t⟩ := r.cons_inv
          injection hh with hh1 hh2
          subst hh1 hh2
          rw [List.map_cons, List.map_cons, List.map_cons, List.map_cons]
          refine Rs.cons (S := []) ?_ (ih e2 t)
          by_cases hk : q.1 = k
          · rw [if_pos hk, if_pos (e1.trans hk)]; exact rv
          · rw [if_neg hk, if_neg (fun z => hk (e1.symm.trans z))]; exact r1
  · constructor
    · rw [List.map_append, List.map_append, e]
      rfl
    · rw [List.map_append, List.map_append]
      exact r.app (Rs.cons rv .nil)
end
/-! ### d[k] -/
def ixA (c i : D) : Option D := match c, i with
  | .dt _ kvs, .tup true ks => match (keysD ks).bind (valD kvs) with
    | some d => if d.fz then some d else none
    | none => none
  | .dk _ kvs, i => match i.key.bind (valD kvs) with
    | some d => if d.fz then some d else none
    | none => none
  | c, .int i => ixD c i
  | _, _ => none
def fIxA : List D → Option D
  | [c, i] => ixA c i
  | _ => none
theorem R.dt {v : V} {o : Bool} {kd : List (List Key × D)} (r : R K B H v (.dt o kd) s) : ∃ a kv T, v = .ref a ∧ H a = some (.dT kv) ∧ kv.map (·.1) = kd.map (·.1) ∧ Rs K B H (kv.map (·.2)) (kd.map (·.2)) T := by
  cases r with
  | dtF h n e t => exact ⟨_, _, _, rfl, h, e, t⟩
  | dtO h e t => exact ⟨_, _, _, rfl, h, e, t⟩
theorem R.dk {v : V} {o : Bool} {kd : List (Key × D)} (r : R K B H v (.dk o kd) s) : ∃ a kv T, v = .ref a ∧ H a = some (.dK kv) ∧ kv.map (·.1) = kd.map (·.1) ∧ Rs K B H (kv.map (·.2)) (kd.map (·.2)) T := by
  cases r with
  | dkF h n e t => exact ⟨_, _, _, rfl, h, e, t⟩
  | dkO h e t => exact ⟨_, _, _, rfl, h, e, t⟩
theorem R.tk {v : V} {ks : List D} (r : R K B H v (.tup true ks) s) : ∃ b vs, v = .ref b ∧ H b = some (.tup vs) ∧ Rs K B H vs ks [] := by
  cases r with
  | tupK h n t => exact ⟨_, _, rfl, h, t⟩
theorem o_ixA : OPS K (r2 (rIxA K)) fIxA := by
  intro B H vs ds d Q hB hr hf q
  match ds, hr, hf with
  | [c, i], .cons r1 (.cons r2 .nil), e =>
    simp only [fIxA] at e
    unfold ixA at e
    split at e
    · rename_i o kvs ks
      cases hk : keysD ks with
      | none => rw [hk] at e; cases e
      | some kk =>
        rw [hk] at e
        simp only [Option.bind_some] at e
        cases hv : valD kvs kk with
        | none => rw [hv] at e; cases e
        | some d' =>
          rw [hv] at e
          dsimp only at e
          split at e
          · rename_i hf'
            cases e
            obtain ⟨a, kv, T, rfl, h1, h2, t⟩ := r1.dt
            obtain ⟨b, ws, rfl, hb, tk⟩ := r2.tk
            have ek := tk.keys hk
            subst ek
            obtain ⟨v, S', hv', rv⟩ := t.val h2 hv
            have z := rv.nil hf'
            rw [z] at rv
            refine .inr ⟨a, v, rfl, ?_, q.at rv⟩
            rw [← hv']
            exact DGet.t h1 hb
          · cases e
    · rename_i o kvs
      cases hk : i.key with
      | none => rw [hk] at e; cases e
      | some kk =>
        rw [hk] at e
        simp only [Option.bind_some] at e
        cases hv : valD kvs kk with
        | none => rw [hv] at e; cases e
        | some d' =>
          rw [hv] at e
          dsimp only at e
          split at e
          · rename_i hf'
            cases e
            obtain ⟨a, kv, T, rfl, h1, h2, t⟩ := r1.dk
            have ek := r2.key hk
            subst ek
            obtain ⟨v, S', hv', rv⟩ := t.val h2 hv
            have z := rv.nil hf'
            rw [z] at rv
            refine .inr ⟨a, v, rfl, ?_, q.at rv⟩
            rw [← hv']
            exact DGet.k h1
          · cases e
    · rename_i i' _ _
      exact .inl (o_ix B H _ _ d Q hB (.cons r1 (.cons r2 .nil)) e q)
    · cases e
end EV

set_option Elab.async false
set_option linter.all false
set_option maxRecDepth 100000
set_option maxHeartbeats 1000000
/-! EVh: dict comprehensions with tuple keys (printed by mk_evh.py from the texts of list comprehensions). -/
namespace EV
open PySem L2
variable {K : PySem.W.Frag} {B B' B0 B1 : Bs} {H H1 H2 H' : Hp} {σ σ' σ1 : St} {ρ ρ1 ρ2 ρ' : Env} {S S1 S2 S' : Nat → List Addr} {s s1 s2 : List Addr} {E : St → XK} {Q : VK}
def dLoop (chk : Env → Bool) (turn : D → Env → Out (Env × Option (List Key × D))) : List D → List (List Key × D) → Env → Out (Env × List (List Key × D))
  | [], acc, ρ => .ok (ρ, acc)
  | d :: ds, acc, ρ => match turn d ρ with
    | .ok (ρ', some y) => if chk ρ' && decide (acc.length < LIM) then dLoop chk turn ds (putD acc y.1 y.2) ρ' else .bad
    | .ok (ρ', none) => if chk ρ' && decide (acc.length < LIM) then dLoop chk turn ds acc ρ' else .bad
    | _ => .bad
def dTurn (vs : List Nat) (G : VG) (T : VT) (F F' : VE) : D → Env → Out (Env × Option (List Key × D)) := fun d ρ => match G d ρ with
  | some ρ1 => match T ρ1 with
    | .ok (ρ2, true) => match vCons (vKeep F) (vCons (vKeep F') vNil) ρ2 with
      | .ok (ρ3, as) => match as with
        | [.val (.tup true kd), .val y] => match keysD kd with
          | some k => if y.fz then .ok (wipeE ρ3 vs, some (k, y)) else .bad
          | none => .bad
        | _ => .bad
      | _ => .bad
    | .ok (ρ2, false) => .ok (wipeE ρ2 vs, none)
    | _ => .bad
  | none => .bad
theorem keysD_fz : ∀ {ds : List D} {ks : List Key}, keysD ds = some ks → ∀ d ∈ ds, d.fz = true
  | [], _, _, _, m => nomatch m
  | d :: ds, ks, h, e, m => by
    unfold keysD at h
    cases e1 : d.key with
    | none => rw [e1] at h; cases h
    | some k =>
      cases e2 : keysD ds with
      | none => rw [e1, e2] at h; cases h
      | some ks' =>
        rcases List.mem_cons.mp m with rfl | m
        · cases e <;> first | rfl | (simp [D.key] at e1)
        · exact keysD_fz e2 e m
def dcR (g : TG) (tt : TT) (tk tv : TE) (vs : List Nat) (σ : St) (A : Addr) (Q : VK) : It → Hp → Prop := fun J H1 => ∃ W : Nat → Nat → Hp → Prop, (∃ m, W 0 m (L2.upd H1 A (.dT []))) ∧ ∀ i m H, W i m H →
  (J.stop i H ∧ Q (.ref A) H) ∨ (J.go i H ∧ ∃ Nx : Hp → Prop, (∀ H', Nx H' → ∃ m', m' < m ∧ W (i + 1) m' H') ∧ ∀ x H', J.yld i H x H' → g x (wipe σ vs) H' fun σ2 H2 => wipe σ2 vs = wipe σ vs ∧ tt σ2 H2 fun b H3 =>
    if b = true then tk σ2 H3 fun y H4 => tv σ2 H4 fun z H5 => stT A y z H5 Nx else Nx H3)
theorem dc_two {tk tv : TE} {F F' : VE} {A : Addr} {Nx : Hp → Prop} {N0 : Prop} (hF : EV K E0' tk F) (hF' : EV K E0' tv F') (e : EnvR K B0 H σ ρ S)
    (p : LPost K E0' B0 σ H S (fun ws H5 => match ws with | [y, z] => stT A y z H5 Nx | _ => False) (vCons (vKeep F) (vCons (vKeep F') vNil) ρ)) : (if true = true then tk σ H fun y H4 => tv σ H4 fun z H5 => stT A y z H5 Nx else N0) := by
  rw [if_pos rfl]
  exact al_cons (ar_keep hF) (al_cons (ar_keep hF') al_nil) B0 σ H ρ S _ e p
theorem dc_ev {W1 vs : List Nat} {dep : Dep} {J : It} {xs : List D} {Ct : CtT} {g : TG} {G : VG} {tt : TT} {T : VT} {tk tv : TE} {F F' : VE} {A : Addr} {ys : List (List Key × D)}
    (w : Src K s dep J xs Ct) (ft : Fit s dep (pl B1 [A]) [] (fun a => a = A)) (hg : GV K W1 g G) (ht : TV K E0' tt T) (hF : EV K E0' tk F) (hF' : EV K E0' tv F') (hW1 : ∀ j ∈ W1, j ∈ vs) (e : EnvR K B1 H1 σ ρ1 S1) (nA : H1 A = none)
    (c : Ct (pl B1 [A]) (wipe σ vs) (wipeE ρ1 vs) (L2.upd H1 A (.dT [])) (wipeS S1 vs)) (hr : dLoop (chkO dep) (dTurn vs G T F F') xs [] (wipeE ρ1 vs) = .ok (ρ', ys))
    (p : ∀ H' S' vacc, EnvR K (pl B1 [A]) H' (wipe σ vs) ρ' S' → H' A = some (.dT vacc) → vacc.map (·.1) = ys.map (·.1) → Rs K (bl (pl B1 [A]) S') H' (vacc.map (·.2)) (ys.map (·.2)) [] → StA A H1 S1 H' S' → Q (.ref A) H') : dcR g tt tk tv vs σ A Q J H1 := by
  have s0 : Same H1 (L2.upd H1 A (.dT [])) := sameN nA
  have fA : ∀ a ∈ [A], H1 a = none := fun a m => by
    have : a = A := by simpa using m
    rw [this]; exact nA
  have eA : EnvR K (pl B1 [A]) (L2.upd H1 A (.dT [])) (wipe σ vs) (wipeE ρ1 vs) (wipeS S1 vs) := (e.grow s0 fA fun a m => by
    have : a = A := by simpa using m
    rw [this]; exact ⟨⟨.dT _, trivial⟩, upd_same⟩).wipe vs
  refine ⟨fun i m H => i ≤ xs.length ∧ m = xs.length - i ∧ ∃ ρ S acc vacc, EnvR K (pl B1 [A]) H (wipe σ vs) ρ S ∧ Ct (pl B1 [A]) (wipe σ vs) ρ H S ∧ H A = some (.dT vacc) ∧ vacc.map (·.1) = acc.map (·.1) ∧ Rs K (bl (pl B1 [A]) S) H (vacc.map (·.2)) (acc.map (·.2)) [] ∧ StA A H1 S1 H S ∧ dLoop (chkO dep) (dTurn vs G T F F') (xs.drop i) acc ρ = .ok (ρ', ys),
    ⟨xs.length, Nat.zero_le _, rfl, wipeE ρ1 vs, wipeS S1 vs, [], [], eA, c, upd_same, rfl, .nil, ⟨fun a o q n => s0 a o q, fun a ⟨i, m⟩ => .inr ⟨i, (wipeS_mem m).2⟩⟩, hr⟩, ?_⟩
  rintro i m H ⟨hi, rfl, ρ, S, acc, vacc, e1, c1, hA, ke, ra, st, hl⟩
  obtain ⟨stp, go, yl⟩ := w.at_ _ _ ρ H S e1 c1
  by_cases hlt : i < xs.length
  · refine .inr ⟨go i hlt, fun H' => i + 1 ≤ xs.length ∧ ∃ ρ S acc vacc, EnvR K (pl B1 [A]) H' (wipe σ vs) ρ S ∧ Ct (pl B1 [A]) (wipe σ vs) ρ H' S ∧ H' A = some (.dT vacc) ∧ vacc.map (·.1) = acc.map (·.1) ∧ Rs K (bl (pl B1 [A]) S) H' (vacc.map (·.2)) (acc.map (·.2)) [] ∧ StA A H1 S1 H' S ∧ dLoop (chkO dep) (dTurn vs G T F F') (xs.drop (i + 1)) acc ρ = .ok (ρ', ys), fun H' ⟨h1, h2⟩ => ⟨xs.length - (i + 1), by omega, h1, rfl, h2⟩, fun x H0 y => ?_⟩
    obtain ⟨m0, rv⟩ := yl i x H0 xs[i] (List.getElem?_eq_getElem hlt) y
    have e0 : EnvR K (pl B1 [A]) H0 (wipe σ vs) ρ S := (e1.grow (s := []) m0 (fun _ m => nomatch m) fun _ m => nomatch m).less
    have t0 : Step H S H0 S [] := Step.grow m0 fun _ m => nomatch m
    have hd : xs.drop i = xs[i] :: xs.drop (i + 1) := List.drop_eq_getElem_cons hlt
    rw [hd] at hl
    have fd : (xs[i]).fz = true := fzs_all.mp w.fz _ (List.getElem_mem hlt)
    unfold dLoop at hl
    generalize hq : dTurn vs G T F F' xs[i] ρ = oq at hl
    unfold dTurn at hq
    cases hG : G xs[i] ρ with
    | none => rw [hG] at hq; subst hq; cases hl
    | some ρ2 =>
      rw [hG] at hq
      dsimp only at hq
      refine hg _ _ H0 ρ S x xs[i] ρ2 _ e0 rv fd hG fun σ2 S2 e2 t2' f2 l2 m2 => ?_
      have t2 : Step H S H0 S2 [] := t0.trans t2'
      have hlen : σ2.length = σ.length := m2.trans (wipe_length _ _)
      have hw : wipe σ2 vs = wipe σ vs := wipe_eq hlen (f2.mono hW1)
      refine ⟨hw, ?_⟩
      have bA : ∀ {S' : Nat → List Addr}, bl (pl B1 [A]) S' A := .inl (.inr (by simp))
      -- the end of a turn: from a heap H5 in which A may have grown
      have fin : ∀ {H5 : Hp} {ρ5 : Env} {S5 : Nat → List Addr} {acc' : List (List Key × D)} {vacc' : List (List Key × V)}, EnvR K (pl B1 [A]) H5 σ2 ρ5 S5 → StepX (fun a => a = A) H S H5 S5 → H5 A = some (.dT vacc') → vacc'.map (·.1) = acc'.map (·.1) → Rs K (bl (pl B1 [A]) S5) H5 (vacc'.map (·.2)) (acc'.map (·.2)) [] → chkO dep (wipeE ρ5 vs) = true →
          dLoop (chkO dep) (dTurn vs G T F F') (xs.drop (i + 1)) acc' (wipeE ρ5 vs) = .ok (ρ', ys) → i + 1 ≤ xs.length ∧ ∃ ρ S acc vacc, EnvR K (pl B1 [A]) H5 (wipe σ vs) ρ S ∧ Ct (pl B1 [A]) (wipe σ vs) ρ H5 S ∧ H5 A = some (.dT vacc) ∧ vacc.map (·.1) = acc.map (·.1) ∧ Rs K (bl (pl B1 [A]) S) H5 (vacc.map (·.2)) (acc.map (·.2)) [] ∧ StA A H1 S1 H5 S ∧ dLoop (chkO dep) (dTurn vs G T F F') (xs.drop (i + 1)) acc ρ = .ok (ρ', ys) := fun {H5 ρ5 S5 acc' vacc'} e5 t5 hA5 ke5 ra5 hc hl5 => by
        have e6 := e5.wipe vs
        rw [hw] at e6
        refine ⟨hlt, wipeE ρ5 vs, wipeS S5 vs, acc', vacc', e6, w.keep _ _ _ _ ρ H S _ (wipeE ρ5 vs) H5 (wipeS S5 vs) ft c1 e1 e6 ⟨t5.keep, fun a j m => t5.own a j (wipeS_mem m).2⟩ Fr.refl hc, hA5, ke5, ra5.mono (fun _ _ q _ => q) fun a _ _ n z => n (z.imp id fun ⟨j, m⟩ => ⟨j, (wipeS_mem m).2⟩), ⟨fun a o q n => ?_, fun a ⟨j, m⟩ => ?_⟩, hl5⟩
        · have q1 := st.keep a o q n
          refine t5.keep a o q1 (fun j m => ?_) fun z => ?_
          · rcases st.own a ⟨j, m⟩ with z | ⟨j', z⟩
            · rw [q] at z; cases z
            · exact n j' z
          · subst z
            rw [nA] at q
            cases q
        · rcases t5.own a j (wipeS_mem m).2 with z | ⟨j', z⟩
          · cases q : H1 a with
            | none => exact .inl rfl
            | some o =>
              refine .inr ?_
              by_cases mm : ∃ i, a ∈ S1 i
              · exact mm
              · rw [st.keep a o q fun i z => mm ⟨i, z⟩] at z
                cases z
          · exact st.own a ⟨j', z⟩
      cases hT : T ρ2 with
      | bad => rw [hT] at hq; subst hq; cases hl
      | exc => rw [hT] at hq; subst hq; cases hl
      | ok qT =>
        obtain ⟨ρ3, b⟩ := qT
        rw [hT] at hq
        refine ht _ σ2 H0 ρ2 S2 _ e2 ?_
        rw [hT]
        intro H3 S3 e3 t3
        have t23 : Step H S H3 S3 [] := t2.trans t3
        have hA3 : H3 A = some (.dT vacc) := t23.keep A _ hA fun j m => e1.av j A m (.inr (by simp))
        have ra3 : Rs K (bl (pl B1 [A]) S3) H3 (vacc.map (·.2)) (acc.map (·.2)) [] := ra.mono (fun a o q n => t23.keep a o q fun j m => n.elim (fun n => n (.inr ⟨j, m⟩)) fun n => nomatch n) fun a o q n z => z.elim (fun z => n (.inl z)) fun ⟨j, z⟩ => t23.not q (fun j m => n (.inr ⟨j, m⟩)) j z
        cases b with
        | false =>
          dsimp only at hq
          subst hq
          dsimp only at hl
          split at hl
          · rename_i hc
            obtain ⟨hc1, hc2⟩ := Bool.and_eq_true_iff.mp hc
            exact fin e3 t23.x hA3 ke ra3 hc1 hl
          · cases hl
        | true =>
          dsimp only at hq
          cases hFr : vCons (vKeep F) (vCons (vKeep F') vNil) ρ3 with
          | bad => rw [hFr] at hq; subst hq; cases hl
          | exc => rw [hFr] at hq; subst hq; cases hl
          | ok qF =>
            obtain ⟨ρ4, as4⟩ := qF
            rw [hFr] at hq
            dsimp only at hq
            refine dc_two hF hF' e3 ?_
            rw [hFr]
            intro ws H4 S4 s4 e4 hs4 n4 a4 t4
            split at hq
            · rename_i kd y0
              split at hq
              · rename_i kk hkk
                split at hq
                · rename_i hyf
                  subst hq
                  dsimp only at hl
                  split at hl
                  · rename_i hc
                    obtain ⟨hc1, hc2⟩ := Bool.and_eq_true_iff.mp hc
                    cases hs4 with
                    | val r4k hs4 =>
                      cases hs4 with
                      | val r4 hs4 =>
                        cases hs4
                        rename_i vk sk v4 sv
                        have fk : (D.tup true kd).fz = true := by rw [D.fz, fzs_all]; intro d m; exact keysD_fz hkk d m
                        have z1 := r4k.nil fk
                        have z2 := r4.nil hyf
                        subst z1 z2
                        simp only [List.append_nil] at e4 r4 r4k a4 t4 n4
                        rw [pl_nil] at e4 r4 r4k
                        have t34 : Step H S H4 S4 [] := t23.trans t4
                        have hA4 : H4 A = some (.dT vacc) := t34.keep A _ hA fun j m => e1.av j A m (.inr (by simp))
                        have ra4 : Rs K (bl (pl B1 [A]) S4) H4 (vacc.map (·.2)) (acc.map (·.2)) [] := ra.mono (fun a o q n => t34.keep a o q fun j m => n.elim (fun n => n (.inr ⟨j, m⟩)) fun n => nomatch n) fun a o q n z => z.elim (fun z => n (.inl z)) fun ⟨j, z⟩ => t34.not q (fun j m => n (.inr ⟨j, m⟩)) j z
                        obtain ⟨bk, wk, rfl, hbk, tk4⟩ := r4k.tk
                        have ek := tk4.keys hkk
                        subst ek
                        have lv : vacc.length = acc.length := by have := congrArg List.length ke; simpa using this
                        refine ⟨vacc, kk, bk, rfl, hbk, hA4, by rw [lv]; exact Nat.lt_of_lt_of_le (of_decide_eq_true hc2) lim, ?_⟩
                        have ne : ∀ j, A ∉ S4 j := fun j m => e4.av j A m (.inr (by simp))
                        obtain ⟨pk1, pk2⟩ := put_rs (k := kk) ke ra4 r4
                        refine fin (H5 := L2.upd H4 A (.dT (putK vacc kk v4))) (ρ5 := ρ4) (S5 := S4) ⟨fun j d h => ?_, e4.nd, e4.dj, e4.av, fun a h => ?_, fun j a h => ?_, e4.ln⟩ ⟨fun a o q n na => ?_, fun a j m => t34.own a (.inl ⟨j, m⟩)⟩ upd_same pk1 (pk2.upd bA fun m => nomatch m) hc1 hl
                        · obtain ⟨v5, h5, r5⟩ := e4.sl j d h
                          exact ⟨v5, h5, r5.upd bA (ne j)⟩
                        · by_cases ha : a = A
                          · subst ha; exact ⟨⟨.dT _, trivial⟩, upd_same⟩
                          · rw [upd_ne ha]; exact e4.tb a h
                        · by_cases ha : a = A
                          · subst ha; exact ⟨⟨.dT _, trivial⟩, upd_same⟩
                          · rw [upd_ne ha]; exact e4.ts j a h
                        · rw [upd_ne na]
                          exact t34.keep a o q n
                  · cases hl
                · subst hq; cases hl
              · subst hq; cases hl
            · subst hq; cases hl
  · have hi' : i = xs.length := by omega
    subst hi'
    rw [List.drop_length] at hl
    unfold dLoop at hl
    cases hl
    exact .inl ⟨stp, p H S vacc e1 hA ke ra st⟩
/-- behind the block -/
theorem dc_exit {vs : List Nat} {A : Addr} {vacc : List (List Key × V)} {ys : List (List Key × D)} (e : EnvR K B1 H1 σ ρ1 S1) (nA : H1 A = none) (ok : vsOk ρ1 vs = true) (e' : EnvR K (pl B1 [A]) H' (wipe σ vs) ρ' S') (hA : H' A = some (.dT vacc)) (ke : vacc.map (·.1) = ys.map (·.1)) (ra : Rs K (bl (pl B1 [A]) S') H' (vacc.map (·.2)) (ys.map (·.2)) []) (st : StA A H1 S1 H' S') :
    EnvR K (pl B1 [A]) H' σ (restE ρ1 ρ' vs) (wipeS S' vs) ∧ R K (bl (pl B1 [A]) (wipeS S' vs)) H' (.ref A) (.dt true ys) [A] ∧ Step H1 S1 H' (wipeS S' vs) [A] := by
  have sub : ∀ a, bl (pl B1 [A]) (wipeS S' vs) a → bl (pl B1 [A]) S' a := fun a z => z.imp id fun ⟨j, m⟩ => ⟨j, (wipeS_mem m).2⟩
  refine ⟨⟨fun j d h => ?_, fun j => ?_, fun i j a h1 h2 => e'.dj i j a (wipeS_mem h1).2 (wipeS_mem h2).2, fun j a h => e'.av j a (wipeS_mem h).2, e'.tb, fun j a h => e'.ts j a (wipeS_mem h).2, ?_⟩, .dtO hA ke (ra.mono (fun _ _ q _ => q) fun a _ _ n z => n (sub a z)), ⟨st.keep, fun a h => ?_⟩⟩
  · rcases restE_some h with ⟨h1, h2⟩ | ⟨h1, h2⟩
    · have hf : d.fz = true := by
        have := List.all_eq_true.mp ok j h1
        rw [h2] at this
        exact this
      obtain ⟨v, hv, r⟩ := e.sl j d (join_some.mp h2)
      have z := r.nil hf
      rw [z] at r
      refine ⟨v, hv, ?_⟩
      rw [show wipeS S' vs j = [] from if_pos h1]
      refine r.mono (fun a o q n => st.keep a o q fun i m => n.elim (fun n => n (.inr ⟨i, m⟩)) fun n => nomatch n) fun a o q n z => ?_
      rcases sub a z with (z | z) | ⟨i, z⟩
      · exact n (.inl z)
      · have : a = A := by simpa using z
        rw [this, nA] at q
        cases q
      · rcases st.own a ⟨i, z⟩ with w | ⟨i', w⟩
        · rw [q] at w; cases w
        · exact n (.inr ⟨i', w⟩)
    · obtain ⟨v, hv, r⟩ := e'.sl j d h2
      rw [wipe_get, if_neg h1] at hv
      refine ⟨v, hv, ?_⟩
      rw [show wipeS S' vs j = S' j from if_neg h1]
      exact r.mono (fun _ _ q _ => q) fun a _ _ n z => n (sub a z)
  · unfold wipeS
    split
    · exact List.nodup_nil
    · exact e'.nd j
  · rw [restE_len, ← e'.ln, wipe_length]
  · rcases h with ⟨j, m⟩ | m
    · exact st.own a ⟨j, (wipeS_mem m).2⟩
    · have : a = A := by simpa using m
      rw [this]
      exact .inl nA
def dcFin (ρ1 : Env) (vs : List Nat) : Out (Env × List (List Key × D)) → Out (Env × D)
  | .ok (ρ', ys) => .ok (restE ρ1 ρ' vs, .dt true ys)
  | _ => .bad
noncomputable def vDc (vs : List Nat) (I : VI) (G : VG) (T : VT) (F F' : VE) : VE := fun ρ => (I ρ).bind fun q => if vsOk q.1 vs && depOk q.2.2 vs then dcFin q.1 vs (dLoop (chkO q.2.2) (dTurn vs G T F F') q.2.1 [] (wipeE q.1 vs)) else .bad
theorem ev_dc {W1 vs : List Nat} {wi : TI} {I : VI} {g : TG} {G : VG} {tt : TT} {T : VT} {tk tv : TE} {F F' : VE} (hi : IV K E wi I) (hg : GV K W1 g G) (ht : TV K E0' tt T) (hF : EV K E0' tk F) (hF' : EV K E0' tv F') (hW1 : ∀ j ∈ W1, j ∈ vs) : EV K E (tDcG (.dT []) stT wi g tt tk tv vs) (vDc vs I G T F F') := fun B0 σ H ρ S Q e p => by
  show wi σ H fun J H1 => ∀ D, H1 D = none → dcR g tt tk tv vs σ D Q J H1
  refine hi B0 σ H ρ S _ e ?_
  unfold vDc at p
  cases hA : I ρ with
  | bad => rw [hA] at p; exact p.elim
  | exc ρ' x => rw [hA] at p; exact p
  | ok q =>
    obtain ⟨ρ1, xs, dep⟩ := q
    rw [hA] at p
    rw [Out.bind_ok] at p
    dsimp only at p
    intro J H1 S1 s1 Ct e1 a1 t1 sr c A nA
    by_cases ok : (vsOk ρ1 vs && depOk dep vs) = true
    · rw [if_pos ok] at p
      obtain ⟨ok1, ok2⟩ := Bool.and_eq_true_iff.mp ok
      have dp : ∀ i d, dep = some (i, d) → i ∉ vs := fun i d hh => by subst hh; exact of_decide_eq_true ok2
      cases hc : dLoop (chkO dep) (dTurn vs G T F F') xs [] (wipeE ρ1 vs) with
      | bad => rw [hc] at p; exact p.elim
      | exc => rw [hc] at p; exact p.elim
      | ok q2 =>
        obtain ⟨ρ', ys⟩ := q2
        rw [hc] at p
        refine dc_ev (B1 := pl B0 s1) sr ⟨fun x m => .inl (.inr m), fun x m z => ?_, fun x z => .inr (by rw [z]; simp), fun i d _ => by simp⟩ hg ht hF hF' hW1 e1 nA (sr.wipe _ A _ vs σ ρ1 H1 S1 nA dp e1 c) hc fun H' S' vacc e' hD ke ra st => ?_
        · obtain ⟨o, ho⟩ := e1.tb x (.inr m)
          rw [z, nA] at ho
          cases ho
        · obtain ⟨h1, h2, h3⟩ := dc_exit e1 nA ok1 e' hD ke ra st
          refine p _ H' _ [A] (h1.sub fun b z => z.imp .inl id) (h2.mono (fun _ _ q _ => q) fun b _ _ n' z => n' (z.imp (fun z => z.imp .inl id) id)) (by simp) (fun b m z => ?_) ((t1.trans h3).sub fun b m => List.mem_append_right _ m)
          have : b = A := by simpa using m
          rw [this] at z
          obtain ⟨o, ho⟩ := e1.tb A (.inl z)
          rw [nA] at ho
          cases ho
    · rw [if_neg ok] at p
      exact p.elim
end EV

set_option Elab.async false
set_option linter.all false
set_option maxRecDepth 100000
set_option maxHeartbeats 1000000
/-! EVi: sorted, isinstance, all, any, tuple(), repr, f-strings, methods. -/
namespace EV
open PySem L2 PySem.W
variable {K : PySem.W.Frag} {B B' B0 B1 : Bs} {H H1 H2 H' : Hp} {σ σ' σ1 : St} {ρ ρ1 ρ2 ρ' : Env} {S S1 S2 S' : Nat → List Addr} {s s1 s2 : List Addr} {E : St → XK} {Q : VK}
/-! ### sorted -/
def D.pd (d : D) : PyData := d.toP.getD .none
noncomputable def leD : D → D → Bool := dataLe false D.pd
def isT1 : PyData → Bool
  | .tuple (_ :: _) => true
  | _ => false
def isPl : PyData → Bool
  | .none => false
  | .tuple _ => false
  | _ => true
def srtOk (ps : List PyData) : Bool := (ps.all fun a => ps.all fun b => alike a b) && ((ps.all isT1 || ps.all isPl) && ps.all fun p => decide (p.depth ≤ 50))
def kD : Key → D
  | .inl i => .int i
  | .inr x => .str x
def ktD (k : List Key) : D := .tup true (k.map kD)
noncomputable def fSorted : List D → Option D
  | [.lst _ xs] => match toPs xs with
    | some ps => if fzs xs && srtOk ps then some (.lst true (xs.mergeSort leD)) else none
    | none => none
  | [.dt _ kvs] => if srtOk (kvs.map fun p => ktP p.1) then some (.lst true ((kvs.map fun p => ktD p.1).mergeSort leD)) else none
  | _ => none
theorem srtOk_spec {ps : List PyData} (h : srtOk ps = true) : AllAlike ps ∧ Sortable ps ∧ ∀ p ∈ ps, p.depth ≤ 50 := by
  unfold srtOk at h
  rw [Bool.and_eq_true, Bool.and_eq_true, Bool.or_eq_true] at h
  obtain ⟨h1, h2, h3⟩ := h
  refine ⟨fun d hd d' hd' => List.all_eq_true.mp (List.all_eq_true.mp h1 d hd) d' hd', ?_, fun p m => of_decide_eq_true (List.all_eq_true.mp h3 p m)⟩
  rcases h2 with h2 | h2
  · refine .inl fun d hd => ?_
    have := List.all_eq_true.mp h2 d hd
    cases d with
    | tuple xs =>
      cases xs with
      | nil => cases this
      | cons x r => exact ⟨x, r, rfl⟩
    | _ => cases this
  · refine .inr fun d hd => ?_
    have := List.all_eq_true.mp h2 d hd
    cases d <;> first | (cases this; done) | exact ⟨(fun z => nomatch z), fun _ z => nomatch z⟩
theorem Rs.zip : ∀ {vs : List V} {xs : List D} {ps : List PyData}, Rs K B H vs xs [] → toPs xs = some ps → ∃ T : List (V × D), T.map (·.1) = vs ∧ T.map (·.2) = xs ∧ T.map (fun t => t.2.pd) = ps ∧ ∀ t ∈ T, R K B H t.1 t.2 [] ∧ Dp K H t.1 t.2.pd
  | [], xs, ps, r, h => by
    cases r
    cases h
    exact ⟨[], rfl, rfl, rfl, fun _ m => nomatch m⟩
  | v :: vs, xs, ps, r, h => by
    obtain ⟨d, ds, rfl, r1, t⟩ := r.cons_inv
    rw [toPs] at h
    cases e1 : d.toP with
    | none => rw [e1] at h; cases h
    | some p =>
      cases e2 : toPs ds with
      | none => rw [e1, e2] at h; cases h
      | some ps' =>
        rw [e1, e2] at h
        cases h
        obtain ⟨T, h1, h2, h3, h4⟩ := Rs.zip t e2
        have hp : d.pd = p := by unfold D.pd; rw [e1]; rfl
        refine ⟨(v, d) :: T, by rw [List.map_cons, h1], by rw [List.map_cons, h2], by rw [List.map_cons, h3, hp], fun x m => ?_⟩
        rcases List.mem_cons.mp m with rfl | m
        · exact ⟨r1, by rw [hp]; exact r1.dp e1⟩
        · exact h4 x m
theorem rs_of_all : ∀ {T : List (V × D)}, (∀ t ∈ T, R K B H t.1 t.2 []) → Rs K B H (T.map (·.1)) (T.map (·.2)) []
  | [], _ => .nil
  | t :: T, h => Rs.cons (S := []) (h t List.mem_cons_self) (rs_of_all fun x m => h x (List.mem_cons_of_mem _ m))
theorem kD_pd : ∀ {k : List Key}, toPs (k.map kD) = some (k.map keyP)
  | [] => rfl
  | .inl i :: k => by rw [List.map_cons, toPs, kD_pd]; rfl
  | .inr x :: k => by rw [List.map_cons, toPs, kD_pd]; rfl
theorem ktD_pd {k : List Key} : (ktD k).pd = ktP k := by
  unfold D.pd ktD
  rw [D.toP, kD_pd]
  rfl
theorem rs_keys : ∀ {k : List Key}, Rs K B H (k.map kV) (k.map kD) []
  | [] => .nil
  | .inl i :: k => Rs.cons (S := []) .int rs_keys
  | .inr x :: k => Rs.cons (S := []) .str rs_keys
theorem o_sorted : OPS K (rSortA K) fSorted := by
  intro B H vs ds d Q hB hr hf q
  unfold fSorted at hf
  split at hf
  · rename_i o xs
    cases hp : toPs xs with
    | none => rw [hp] at hf; cases hf
    | some ps =>
      rw [hp] at hf
      dsimp only at hf
      split at hf
      · rename_i hc
        cases hf
        obtain ⟨c1, c2⟩ := Bool.and_eq_true_iff.mp hc
        obtain ⟨s1, s2, s3⟩ := srtOk_spec c2
        match hr with
        | .cons r .nil =>
          obtain ⟨p, ws, rfl, hH, t⟩ := r.lst c1
          obtain ⟨T, h1, h2, h3, h4⟩ := t.zip hp
          have hb : (T.map fun t => (t.1, t.2.pd)).map (·.2) = ps := by rw [List.map_map]; exact h3
          refine .inl ⟨p, T.map fun t => (t.1, t.2.pd), rfl, ?_, fun b m => ?_, by rw [hb]; exact s1, by rw [hb]; exact s2, fun b m => s3 _ (by rw [← hb]; exact List.mem_map.mpr ⟨b, m, rfl⟩), fun u nu => ?_⟩
          · rw [List.map_map]
            show SqL K H p (T.map (·.1))
            rw [h1]
            exact SqL.of hH
          · obtain ⟨x, mx, rfl⟩ := List.mem_map.mp m
            exact (h4 x mx).2
          · have e1 : (T.map fun t => (t.1, t.2.pd)).mergeSort (dataLe false (·.2)) = (T.mergeSort (dataLe false fun t => t.2.pd)).map fun t => (t.1, t.2.pd) := (List.map_mergeSort (r := dataLe false fun t : V × D => t.2.pd) (s := dataLe false fun x : V × PyData => x.2) (f := fun t : V × D => (t.1, t.2.pd)) (l := T) fun a _ b _ => rfl).symm
            have e2 : xs.mergeSort leD = (T.mergeSort (dataLe false fun t => t.2.pd)).map (·.2) := by rw [← h2]; exact (List.map_mergeSort (r := dataLe false fun t : V × D => t.2.pd) (s := leD) (f := fun t : V × D => t.2) (l := T) fun a _ b _ => rfl).symm
            rw [e1, List.map_map]
            rw [e2] at q
            exact Res.lst q (rs_of_all fun t m => (h4 t ((List.mergeSort_perm T _).mem_iff.mp m)).1) nu
      · cases hf
  · rename_i o kvs
    split at hf
    · rename_i hc
      cases hf
      obtain ⟨s1, s2, s3⟩ := srtOk_spec hc
      match hr with
      | .cons r .nil =>
        obtain ⟨a, kv, T, rfl, hH, ke, t⟩ := r.dt
        have hm : kv.map (fun p => ktP p.1) = kvs.map fun p => ktP p.1 := by
          have f1 : kv.map (fun p => ktP p.1) = (kv.map (·.1)).map ktP := by rw [List.map_map]; rfl
          have f2 : kvs.map (fun p => ktP p.1) = (kvs.map (·.1)).map ktP := by rw [List.map_map]; rfl
          rw [f1, f2, ke]
        refine .inr ⟨a, kv, rfl, .inl hH, by rw [hm]; exact s1, by rw [hm]; exact s2, fun u bs nu hk hb => ?_⟩
        have e1 : (kvs.map fun p => ktD p.1).mergeSort leD = (bs.mergeSort (dataLe false fun b => ktP b.2)).map fun b => ktD b.2 := by
          have : kvs.map (fun p => ktD p.1) = bs.map fun b => ktD b.2 := by
            have f1 : kvs.map (fun p => ktD p.1) = (kvs.map (·.1)).map ktD := by rw [List.map_map]; rfl
            have f2 : bs.map (fun b => ktD b.2) = (bs.map (·.2)).map ktD := by rw [List.map_map]; rfl
            rw [f1, f2, hk, ke]
          rw [this]
          refine (List.map_mergeSort (r := dataLe false fun b : Addr × List Key => ktP b.2) fun a _ b _ => ?_).symm
          show dataLe false _ a b = dataLe false D.pd (ktD a.2) (ktD b.2)
          unfold dataLe sortLe
          dsimp only
          rw [ktD_pd, ktD_pd]
        rw [e1] at q
        refine Res.lst q ?_ nu
        have all : ∀ l : List (Addr × List Key), (∀ b ∈ l, H b.1 = some (.tup (b.2.map kV))) → Rs K B H (l.map fun b => V.ref b.1) (l.map fun b => ktD b.2) [] := fun l => by
          induction l with
          | nil => intro _; exact .nil
          | cons b l ih =>
            intro hl
            refine Rs.cons (S := []) (.tupK (hl b List.mem_cons_self) (fun z => ?_) rs_keys) (ih fun c m => hl c (List.mem_cons_of_mem _ m))
            obtain ⟨mo, hmo⟩ := hB _ z
            rw [hl b List.mem_cons_self] at hmo
            have := mo.2
            rw [← Option.some.inj hmo] at this
            exact this
        exact all _ fun b m => hb b ((List.mergeSort_perm bs _).mem_iff.mp m)
    · cases hf
  · cases hf
/-! ### isinstance -/
def D.ty? : D → Option String
  | .non => some "NoneType"
  | .bl _ => some "bool"
  | .int _ => some "int"
  | .str _ => some "str"
  | .tup _ _ => some "tuple"
  | .lst _ _ => some "list"
  | .dk _ _ => some "dict"
  | .dt _ _ => some "dict"
  | _ => none
/-- is a an instance of b -/
def isaT : List (String × String × Bool) := [("NoneType", "str", false), ("bool", "str", false), ("int", "str", false), ("str", "str", true), ("tuple", "str", false), ("list", "str", false), ("dict", "str", false),
  ("NoneType", "int", false), ("bool", "int", true), ("int", "int", true), ("str", "int", false), ("tuple", "int", false), ("list", "int", false), ("dict", "int", false),
  ("NoneType", "bool", false), ("bool", "bool", true), ("int", "bool", false), ("str", "bool", false), ("tuple", "bool", false), ("list", "bool", false), ("dict", "bool", false),
  ("NoneType", "tuple", false), ("bool", "tuple", false), ("int", "tuple", false), ("str", "tuple", false), ("tuple", "tuple", true), ("list", "tuple", false), ("dict", "tuple", false),
  ("NoneType", "list", false), ("bool", "list", false), ("int", "list", false), ("str", "list", false), ("tuple", "list", false), ("list", "list", true), ("dict", "list", false),
  ("NoneType", "dict", false), ("bool", "dict", false), ("int", "dict", false), ("str", "dict", false), ("tuple", "dict", false), ("list", "dict", false), ("dict", "dict", true)]
theorem isaT_ok : (isaT.all fun p => decide (kitB p.1 p.2.1 = some p.2.2)) = true := by decide +kernel
def isa (a b : String) : Option Bool := (isaT.find? fun p => p.1 == a && p.2.1 == b).map (·.2.2)
theorem isa_kit {a b : String} {r : Bool} (h : isa a b = some r) : kitOne K (.type a) (.type b) = some r := by
  unfold isa at h
  obtain ⟨p, hp, rfl⟩ := Option.map_eq_some_iff.mp h
  have m := List.mem_of_find?_eq_some hp
  have c := List.find?_some hp
  rw [Bool.and_eq_true, beq_iff_eq, beq_iff_eq] at c
  have k := of_decide_eq_true (List.all_eq_true.mp isaT_ok p m)
  rw [c.1, c.2] at k
  exact kit_ty k
def fIsi : List D → Option D
  | [d, .ty n] => (d.ty?.bind fun a => isa a n).map D.bl
  | _ => none
theorem R.tyx {v : V} {d : D} {a : String} (r : R K B H v d s) (h : d.ty? = some a) : TyX K H v (.type a) := by
  cases r <;> simp only [D.ty?, Option.some.injEq] at h <;> first | (cases h; done) | subst h
  · exact .base .non
  · exact .base (.bl _)
  · exact .base (.int _)
  · exact .base (.str _)
  · rename_i hh _
    rcases hh with ⟨hh | ⟨o, hh⟩, _⟩ | ⟨o, its, n, hl, hc, _⟩
    · exact .base (.tup hh)
    · exact .fTuple hh
    · exact .kTuple hl hc
  · exact .base (.tup ‹_›)
  · exact .base (.lst ‹_›)
  · exact .base (.lst ‹_›)
  · exact .base (.dK ‹_›)
  · exact .base (.dK ‹_›)
  · exact .base (.dT ‹_›)
  · exact .base (.dT ‹_›)
theorem o_isi : OPS K (rIsi K) fIsi := by
  intro B H vs ds d Q hB hr hf q
  match ds, hr, hf with
  | [c, .ty n], .cons r (.cons .ty .nil), e =>
    simp only [fIsi] at e
    cases h1 : c.ty? with
    | none => rw [h1] at e; cases e
    | some a =>
      rw [h1] at e
      simp only [Option.bind_some] at e
      cases h2 : isa a n with
      | none => rw [h2] at e; cases e
      | some b =>
        rw [h2] at e
        cases e
        exact ⟨_, _, _, _, b, rfl, .ty n, r.tyx h1, isa_kit h2, q.bl⟩
theorem ev_ty {n : String} : EV K E (tC (.ty n)) (vC (.ty n)) := ev_c fun _ _ => .ty
/-! ### all, any -/
def blsD : List D → Option (List Bool)
  | [] => some []
  | .bl b :: ds => (blsD ds).map (b :: ·)
  | _ => none
theorem Rs.bls : ∀ {vs ds S bs}, Rs K B H vs ds S → blsD ds = some bs → vs = bs.map V.bl
  | _, _, _, _, .nil, h => by cases h; rfl
  | _, d :: ds, _, bs, .cons r t, h => by
    cases d <;> simp only [blsD] at h <;> first | (cases h; done) | skip
    obtain ⟨bs', h', rfl⟩ := Option.map_eq_some_iff.mp h
    cases r
    rw [t.bls h']
    rfl
def fAll : List D → Option D
  | [.lst _ xs] => (blsD xs).map fun bs => .bl (bs.all id)
  | _ => none
def fAny : List D → Option D
  | [.lst _ xs] => (blsD xs).map fun bs => .bl (bs.any id)
  | _ => none
theorem R.lstA {v : V} {o : Bool} {xs : List D} (r : R K B H v (.lst o xs) s) : ∃ p vs T, v = .ref p ∧ H p = some (.lst vs) ∧ Rs K B H vs xs T := by
  cases r with
  | lstF h n t => exact ⟨_, _, _, rfl, h, t⟩
  | lstO h t => exact ⟨_, _, _, rfl, h, t⟩
theorem o_all : OPS K (rAll K) fAll := by
  intro B H vs ds d Q hB hr hf q
  match ds, hr, hf with
  | [.lst o xs], .cons r .nil, e =>
    simp only [fAll] at e
    obtain ⟨bs, hb, rfl⟩ := Option.map_eq_some_iff.mp e
    obtain ⟨p, ws, T, rfl, hp, t⟩ := r.lstA
    have := t.bls hb
    subst this
    exact ⟨p, bs, rfl, SqL.of hp, q.bl⟩
theorem o_any : OPS K (rAny K) fAny := by
  intro B H vs ds d Q hB hr hf q
  match ds, hr, hf with
  | [.lst o xs], .cons r .nil, e =>
    simp only [fAny] at e
    obtain ⟨bs, hb, rfl⟩ := Option.map_eq_some_iff.mp e
    obtain ⟨p, ws, T, rfl, hp, t⟩ := r.lstA
    have := t.bls hb
    subst this
    exact ⟨p, bs, rfl, SqL.of hp, q.bl⟩
/-! ### tuple(x), repr(x) -/
def fTuple : List D → Option D
  | [.lst _ xs] => if fzs xs then some (.tup true xs) else none
  | [.tup k xs] => if fzs xs then some (.tup k xs) else none
  | _ => none
theorem o_tuple : OPS K (rTupC K) fTuple := by
  intro B H vs ds d Q hB hr hf q
  match ds, hr, hf with
  | [.lst o xs], .cons r .nil, e =>
    simp only [fTuple] at e
    split at e
    · rename_i c
      cases e
      obtain ⟨p, ws, rfl, hp, t⟩ := r.lst c
      exact ⟨_, rfl, .inl ⟨p, ws, rfl, SqL.of hp, fun u nu => Res.tupN hB q t nu⟩⟩
    · cases e
  | [.tup k xs], .cons r .nil, e =>
    simp only [fTuple] at e
    split at e
    · rename_i c
      cases e
      have z := r.nil (by rw [D.fz]; exact c)
      subst z
      obtain ⟨p, ws, rfl, hp, t⟩ := r.tup'
      exact ⟨_, rfl, .inr ⟨p, ws, rfl, hp.sq, q.at r⟩⟩
    · cases e
def fRepr : List D → Option D
  | [d] => match d.toP with
    | some p => if p.showable && (!p.hasDict && (decide (p.depth ≤ 60) && decide (p.shown.length ≤ LIM))) then some (.str p.shown) else none
    | none => none
  | _ => none
theorem o_repr : OPS K (rRepr K) fRepr := by
  intro B H vs ds d Q hB hr hf q
  match ds, hr, hf with
  | [c], .cons r .nil, e =>
    simp only [fRepr] at e
    cases hp : c.toP with
    | none => rw [hp] at e; cases e
    | some p =>
      rw [hp] at e
      dsimp only at e
      split at e
      · rename_i hc
        cases e
        rw [Bool.and_eq_true, Bool.and_eq_true, Bool.and_eq_true, decide_eq_true_eq, decide_eq_true_eq] at hc
        obtain ⟨h1, h2, h3, h4⟩ := hc
        exact ⟨_, p, rfl, r.dp hp, h1, by simpa using h2, h3, Nat.le_trans h4 lim, q.str⟩
      · cases e
/-! ### f-strings -/
def rFmt : V → Hp → VK → Prop := fun x H1 Q => (∃ y : Str, x = .str y ∧ y.length ≤ sizeLine ∧ Q (.str y) H1) ∨ ∃ i : Int, x = .int i ∧ i.natAbs.log2 < 1920 ∧ Q (.str (toString i)) H1
def fFmt : List D → Option D
  | [.str y] => if y.length ≤ LIM then some (.str y) else none
  | [.int i] => if i.natAbs.log2 < 1920 then some (.str (toString i)) else none
  | _ => none
theorem o_fmt : OPS K (r1 rFmt) fFmt := by
  intro B H vs ds d Q hB hr hf q
  match ds, hr, hf with
  | [.str y], .cons .str .nil, e =>
    simp only [fFmt] at e
    split at e
    · rename_i c
      cases e
      exact .inl ⟨y, rfl, Nat.le_trans c lim, q.str⟩
    · cases e
  | [.int i], .cons .int .nil, e =>
    simp only [fFmt] at e
    split at e
    · rename_i c
      cases e
      exact .inr ⟨i, rfl, c, q.str⟩
    · cases e
theorem ev_fmt {te : TE} {A : VA} (h : AR K E te A) : EV K E (tFmt te) (vOp fFmt (vCons A vNil)) := ev_op1 (r := rFmt) h o_fmt
abbrev VJ := Str → Env → Out (Env × Str)
def JPost (K : PySem.W.Frag) (E : St → XK) (B0 : Bs) (σ : St) (H : Hp) (S : Nat → List Addr) (Q : Str → Hp → Prop) : Out (Env × Str) → Prop
  | .ok (ρ', b) => ∀ H' S', EnvR K B0 H' σ ρ' S' → Step H S H' S' [] → Q b H'
  | .exc ρ' x => XP K E B0 σ H S ρ' x
  | .bad => False
def JV (K : PySem.W.Frag) (E : St → XK) (ts : List TE) (F : VJ) : Prop := ∀ B0 σ H ρ S Q acc, EnvR K B0 H σ ρ S → JPost K E B0 σ H S Q (F acc ρ) → tJs ts acc σ H Q
def vJnil : VJ := fun acc ρ => .ok (ρ, acc)
def vJcons (F : VE) (G : VJ) : VJ := fun acc ρ => (F ρ).bind fun q => match q.2 with
  | .str y => if (acc ++ y).length ≤ LIM then G (acc ++ y) q.1 else .bad
  | _ => .bad
theorem jv_nil : JV K E [] vJnil := fun B0 σ H ρ S Q acc e p => p H S e (Step.refl H S)
theorem jv_cons {t : TE} {ts : List TE} {F : VE} {G : VJ} (h : EV K E t F) (hg : JV K E ts G) : JV K E (t :: ts) (vJcons F G) := fun B0 σ H ρ S Q acc e p => by
  refine h B0 σ H ρ S _ e ?_
  unfold vJcons at p
  cases hF : F ρ with
  | bad => rw [hF] at p; exact p.elim
  | exc ρ' x => rw [hF] at p; exact p
  | ok q =>
    obtain ⟨ρ1, d⟩ := q
    rw [hF] at p
    rw [Out.bind_ok] at p
    intro v H1 S1 s1 e1 r n a t
    cases d with
    | str y =>
      cases r
      dsimp only at p
      split at p
      · rename_i c
        refine ⟨y, rfl, Nat.le_trans c lim, hg B0 σ H1 ρ1 S1 Q (acc ++ y) e1.less ?_⟩
        cases hG : G (acc ++ y) ρ1 with
        | bad => rw [hG] at p; exact p.elim
        | exc => rw [hG] at p; exact XP.back0 (t.sub fun _ m => nomatch m) p
        | ok q2 => rw [hG] at p; exact fun H' S' e' u => p H' S' e' ((t.trans u).sub fun _ m => nomatch m)
      · exact p.elim
    | _ => exact p.elim
def vJoin (G : VJ) : VE := fun ρ => (G Str.empty ρ).bind fun q => .ok (q.1, .str q.2)
theorem ev_joined {ts : List TE} {G : VJ} (h : JV K E ts G) : EV K E (fun σ H Q => tJs ts Str.empty σ H fun out H1 => Q (.str out) H1) (vJoin G) := fun B0 σ H ρ S Q e p => by
  refine h B0 σ H ρ S _ Str.empty e ?_
  unfold vJoin at p
  cases hG : G Str.empty ρ with
  | bad => rw [hG] at p; exact p.elim
  | exc ρ' x => rw [hG] at p; exact p
  | ok q =>
    obtain ⟨ρ1, y⟩ := q
    rw [hG] at p
    exact fun H' S' e' u => p _ H' S' [] e'.nil .str List.nodup_nil (fun _ m => nomatch m) u
/-! ### methods of texts and of constant tuples -/
def fUpper : List D → Option D
  | [.str a] => if a.length ≤ 5592405 then some (.str (Txt.upper a)) else none
  | _ => none
theorem ev_upper {to : TE} {A : VA} (h : AR K E to A) : EV K E (tM0 (fun x xs H Q => ∃ a, x = .str a ∧ xs = [] ∧ a.length ≤ 5592405 ∧ Q (.str (Txt.upper a)) H) to) (vOp fUpper (vCons A vNil)) := by
  refine ev_op1 (r := fun x H Q => (∃ a, x = .str a) ∧ ∃ a, x = .str a ∧ ([] : List V) = [] ∧ a.length ≤ 5592405 ∧ Q (.str (Txt.upper a)) H) h fun B H vs ds d Q hB hr hf q => ?_
  match ds, hr, hf with
  | [.str y], .cons .str .nil, e =>
    simp only [fUpper] at e
    split at e
    · rename_i c
      cases e
      exact ⟨⟨y, rfl⟩, y, rfl, rfl, c, q.str⟩
    · cases e
/-- a constant tuple of texts -/
def KTx (K : PySem.W.Frag) (a : Addr) (ys : List Str) : Prop := ∃ (o : Obj) (its : Array Value) (n : Nat), K.lookup a = some o ∧ o.cls = .type "tuple" ∧ o.dict = none ∧ o.data = .seq its n ∧ its.size ≤ sizeLine ∧ Vals (ys.map V.str) its.toList
theorem rs_strs : ∀ {ys : List Str}, Rs K B H (ys.map V.str) (ys.map D.str) []
  | [] => .nil
  | _ :: _ => Rs.cons (S := []) .str rs_strs
theorem ev_ktx {a : Addr} {ys : List Str} (h : KTx K a ys) : EV K E (tC (.ref a)) (vC (.tup false (ys.map D.str))) := ev_c fun B H => by
  obtain ⟨o, its, n, h1, h2, h3, h4, h5, h6⟩ := h
  exact .tup (.inr ⟨o, its, n, h1, h2, h4, h5, h6⟩) rs_strs
def fIndex (ys : List Str) : List D → Option D
  | [.str z] => (ys.findIdx? (· == z)).map fun j => .int (j : Nat)
  | _ => none
theorem ev_index {a : Addr} {ys : List Str} {t : TA} {F : VL} (h : KTx K a ys) (ht : AL K E t F) : EV K E (tBM K "tuple" (fun x xs H Q => ∃ p, ∃ ys : List Str, ∃ z j, x = .ref p ∧ xs = [.str z] ∧ SqT K H p (ys.map V.str) ∧ ys[j]? = some z ∧ (∀ m, m < j → ys[m]? ≠ some z) ∧ Q (.int (j : Nat)) H) (tC (.ref a)) t) (vOp (fIndex ys) F) := by
  obtain ⟨o, its, n, h1, h2, h3, h4, h5, h6⟩ := h
  refine ev_op (r := fun xs H Q => ∃ p, ∃ ys : List Str, ∃ z j, V.ref a = .ref p ∧ xs = [.str z] ∧ SqT K H p (ys.map V.str) ∧ ys[j]? = some z ∧ (∀ m, m < j → ys[m]? ≠ some z) ∧ Q (.int (j : Nat)) H) ht (fun B H vs ds d Q hB hr hf q => ?_) fun σ H Q hh => ⟨.inr (.inl ⟨rfl, o, h1, h2, h3⟩), hh⟩
  match ds, hr, hf with
  | [.str z], .cons .str .nil, e =>
    simp only [fIndex] at e
    obtain ⟨j, hj, rfl⟩ := Option.map_eq_some_iff.mp e
    obtain ⟨hlt, hz, hno⟩ := List.findIdx?_eq_some_iff_getElem.mp hj
    refine ⟨a, ys, z, j, rfl, rfl, .inr ⟨o, its, n, h1, h2, h4, h5, h6⟩, ?_, fun m hm => ?_, q.int⟩
    · rw [List.getElem?_eq_getElem hlt]
      simpa using hz
    · have hm' : m < ys.length := by omega
      rw [List.getElem?_eq_getElem hm']
      have := hno m hm
      simpa using this
end EV

set_option Elab.async false
set_option linter.all false
set_option maxRecDepth 100000
set_option maxHeartbeats 4000000
set_option pp.maxSteps 400
namespace Law
open PySem L2 EV
def top (i : Nat) : Stmt := PySem.Challenge.pw_hadnot_k02_names_and_values.main.body.getD i (.Pass ⟨0, 0, 0, 0⟩)
section
variable {P : Program} {w : World} {K : PySem.W.Frag} {mg : Str → Option Value} {base : Heap}
structure Tx (K : PySem.W.Frag) (mg : Str → Option Value) (kA : Addr) (tL tF tM : Tok) : Prop where
  n_len : mg "len" = none
  n_abs : mg "abs" = none
  n_range : mg "range" = none
  n_list : mg "list" = none
  n_int : mg "int" = none
  n_str : mg "str" = none
  n_isinstance : mg "isinstance" = none
  n_bool : mg "bool" = none
  n_all : mg "all" = none
  n_sorted : mg "sorted" = none
  n_repr : mg "repr" = none
  n_enumerate : mg "enumerate" = none
  n_tuple : mg "tuple" = none
  n_max : mg "max" = none
  n_min : mg "min" = none
  m_LETTERS : mg "LETTERS" = some (.str "abcdefghijklmnopqrstuvwxyz" tL)
  m_FIGURES : mg "FIGURES" = some (.str "0123456789" tF)
  m_MOST_SIGNS : mg "MOST_SIGNS" = some (.int 6 tM)
  m_KINDS : mg "KINDS" = some (.ref kA)
  k_KINDS : KTx K kA ["none", "number", "word", "truth"]
variable {kA : Addr} {tL tF tM : Tok}
abbrev s_isname : Stmt := top 5
theorem sc_isname : FnScope ["value", "sign"] ["value"] (defScope s_isname) := ⟨rfl, rfl, rfl, by decide +kernel, rfl, by decide +kernel, by decide +kernel⟩
noncomputable def v_isname : VS := (vSeq (vIfS (vOrT (vNotT (vB (vOp fIsi (vCons (vSlot 0) (vCons (vVal (vC (.ty "str"))) vNil))))) (vOrT (vNotT (vB (vChain fLe fLe (vVal (vC (.int (1)))) (vVal (vOp fLen (vCons (vSlot 0) vNil))) (vVal (vC (.int 6)))))) (vB (vOp (fIn true) (v2 (vVal (vOp fIxA (v2 (vSlot 0) (vVal (vC (.int (0))))))) (vVal (vC (.str "abcdefghijklmnopqrstuvwxyz")))))))) (vRet (vC (.bl false))) vNext)
    (vRet (vOp fAll (vCons (vVal (vLc [1] (vItems (vSlot 0)) (gvName 1) vTrue (vOr (vOp (fIn false) (v2 (vSlot 1) (vVal (vC (.str "abcdefghijklmnopqrstuvwxyz"))))) (vOp (fIn false) (v2 (vSlot 1) (vVal (vC (.str "0123456789")))))))) vNil))))
noncomputable def f_isname : FnV := fnOf 1 2 (([] ++ []) ++ []) v_isname
theorem ok_isname (D : Def K mg "is_name" s_isname) (T : Tx K mg kA tL tF tM) : HasFn P w K mg base (L2.CX P w) 1 "is_name" ["value"] (spV K f_isname) := by
  obtain ⟨f, fd, F, hm⟩ := D
  refine ⟨f, fd, F.okX sc_isname (fun vs H Q E h => spV_len h) (fun cdv A outer s H vs Q E hr h => ?_), hm, F.kp, F.binds fun _ _ _ _ _ _ us hl => match us, hl with | [_], _ => rfl⟩
  exact ⟨_, (pss_cons (ps_if (PW.pt (pw_or (pt_not (pt_val (pe_callB call_isi (by rfl) T.n_isinstance (by decide +kernel) (pa_cons (pv 0) (pa_cons (pe_bltn (v := .ty "str") (by rfl) T.n_str (by decide +kernel) rfl) pa_nil))))) (pw_or (pt_not (pt_chain op_le op_le pe_int (pe_callB u_len (by rfl) T.n_len (by decide +kernel) (pa_cons (pv 0) pa_nil)) (pe_glob (v := .int 6) (by rfl) T.m_MOST_SIGNS ⟨_, rfl⟩))) (pw_or1 (pt_cmpR u_notIn (pe_ix (ix_any hr.units) (pv 0) pe_int (fun _ _ => rfl)) (pe_glob (v := .str "abcdefghijklmnopqrstuvwxyz") (by rfl) T.m_LETTERS ⟨_, rfl⟩) (by rfl)))))) (pss_one (ps_ret pe_bl)) pss_nil)
    (pss_one (ps_ret (pe_callB (cr_all (by rfl)) (by rfl) T.n_all (by decide +kernel) (pa_cons (pe_lc (own := [("sign", 1)]) (g := gName 1) (tt := tYes) (by rfl) sc_isname.nd (pi_seq (pv 0)) (blkOk_by (own := [("sign", 1)]) (N := ["value", "sign"]) (sc := defScope s_isname) (by decide +kernel)) (fun _ _ _ _ _ => (pg_name (i := 1) sc_isname.nd rfl (Or.inl rfl))) (fun _ _ _ _ _ => pts_nil) (fun _ _ _ _ _ => (pe_or (pe_cmpR u_in (pv 1) (pe_glob (v := .str "abcdefghijklmnopqrstuvwxyz") (by rfl) T.m_LETTERS ⟨_, rfl⟩) (by rfl)) (pe_one (pe_cmpR u_in (pv 1) (pe_glob (v := .str "0123456789") (by rfl) T.m_FIGURES ⟨_, rfl⟩) (by rfl)))))) pa_nil))))), fn_body (N := ["value", "sign"]) (sv_seq (sv_if (tv_or (tv_not (tv_val (ev_cb (al_cons ar_slot (al_cons (ar_val ev_ty) al_nil)) o_isi))) (tv_or (tv_not (tv_test (ev_chain (ar_val ev_int) (ar_val (ev_cb (al_cons ar_slot al_nil) o_len)) (ar_val ev_int) o_ib o_ib))) (tv_test (ev_op2 (ar_val (ev_op2 ar_slot (ar_val ev_int) o_ixA)) (ar_val ev_str) o_in)))) (sv_ret ev_bl) sv_next)
    (sv_ret (ev_cb (al_cons (ar_val (ev_lc (iv_seq ar_slot) gv_name tv_yes (ev_or (ev_op2 ar_slot (ar_val ev_str) o_in) (ev_op2 ar_slot (ar_val ev_str) o_in)) (by decide))) al_nil) o_all))) (by decide) h⟩
structure O1 (P : Program) (w : World) (K : PySem.W.Frag) (mg : Str → Option Value) (base : Heap) : Prop where
  h_is_name : HasFn P w K mg base (L2.CX P w) 1 "is_name" ["value"] (spV K f_isname)
abbrev s_kindof : Stmt := top 6
theorem sc_kindof : FnScope ["value"] ["value"] (defScope s_kindof) := ⟨rfl, rfl, rfl, by decide +kernel, rfl, by decide +kernel, by decide +kernel⟩
noncomputable def v_kindof : VS := (vSeq (vIfS (vB (vOp (fIsN false) (v2 (vSlot 0) (vVal (vC .non))))) (vRet (vC (.str "none"))) vNext)
    (vSeq (vIfS (vB (vOp fIsi (vCons (vSlot 0) (vCons (vVal (vC (.ty "bool"))) vNil)))) (vRet (vC (.str "truth"))) vNext)
    (vRet (vIf (vB (vOp fIsi (vCons (vSlot 0) (vCons (vVal (vC (.ty "int"))) vNil)))) (vC (.str "number")) (vC (.str "word"))))))
noncomputable def f_kindof : FnV := fnOf 1 1 (([] ++ []) ++ (([] ++ []) ++ [])) v_kindof
theorem ok_kindof (D : Def K mg "kind_of" s_kindof) (T : Tx K mg kA tL tF tM) (O : O1 P w K mg base) : HasFn P w K mg base (L2.CX P w) 1 "kind_of" ["value"] (spV K f_kindof) := by
  obtain ⟨f, fd, F, hm⟩ := D
  refine ⟨f, fd, F.okX sc_kindof (fun vs H Q E h => spV_len h) (fun cdv A outer s H vs Q E hr h => ?_), hm, F.kp, F.binds fun _ _ _ _ _ _ us hl => match us, hl with | [_], _ => rfl⟩
  exact ⟨_, (pss_cons (ps_if (pt_cmpR op_isN (pv 0) pe_non (nomark _)) (pss_one (ps_ret pe_str)) pss_nil)
    (pss_cons (ps_if (pt_val (pe_callB call_isi (by rfl) T.n_isinstance (by decide +kernel) (pa_cons (pv 0) (pa_cons (pe_bltn (v := .ty "bool") (by rfl) T.n_bool (by decide +kernel) rfl) pa_nil)))) (pss_one (ps_ret pe_str)) pss_nil)
    (pss_one (ps_ret (pe_ifExp (pt_val (pe_callB call_isi (by rfl) T.n_isinstance (by decide +kernel) (pa_cons (pv 0) (pa_cons (pe_bltn (v := .ty "int") (by rfl) T.n_int (by decide +kernel) rfl) pa_nil)))) pe_str pe_str))))), fn_body (N := ["value"]) (sv_seq (sv_if (tv_test (ev_op2 ar_slot (ar_val ev_non) o_isN)) (sv_ret ev_str) sv_next)
    (sv_seq (sv_if (tv_val (ev_cb (al_cons ar_slot (al_cons (ar_val ev_ty) al_nil)) o_isi)) (sv_ret ev_str) sv_next)
    (sv_ret (ev_if (tv_val (ev_cb (al_cons ar_slot (al_cons (ar_val ev_ty) al_nil)) o_isi)) ev_str ev_str)))) (by decide) h⟩
structure O2 (P : Program) (w : World) (K : PySem.W.Frag) (mg : Str → Option Value) (base : Heap) : Prop extends O1 P w K mg base where
  h_kind_of : HasFn P w K mg base (L2.CX P w) 1 "kind_of" ["value"] (spV K f_kindof)
abbrev s_isvalue : Stmt := top 7
theorem sc_isvalue : FnScope ["value"] ["value"] (defScope s_isvalue) := ⟨rfl, rfl, rfl, by decide +kernel, rfl, by decide +kernel, by decide +kernel⟩
noncomputable def v_isvalue : VS := (vRet (vOr (vOp (fIsN false) (v2 (vSlot 0) (vVal (vC .non)))) (vOr (vOp fIsi (vCons (vSlot 0) (vCons (vVal (vC (.ty "int"))) vNil))) (vCall f_isname (vCons (vSlot 0) vNil)))))
noncomputable def f_isvalue : FnV := fnOf 1 1 [] v_isvalue
theorem ok_isvalue (D : Def K mg "is_value" s_isvalue) (T : Tx K mg kA tL tF tM) (O : O2 P w K mg base) : HasFn P w K mg base (L2.CX P w) 2 "is_value" ["value"] (spV K f_isvalue) := by
  obtain ⟨f, fd, F, hm⟩ := D
  refine ⟨f, fd, F.okX sc_isvalue (fun vs H Q E h => spV_len h) (fun cdv A outer s H vs Q E hr h => ?_), hm, F.kp, F.binds fun _ _ _ _ _ _ us hl => match us, hl with | [_], _ => rfl⟩
  exact ⟨_, (pss_one (ps_ret (pe_or (pe_cmpR op_isN (pv 0) pe_non (nomark _)) (pe_or (pe_callB call_isi (by rfl) T.n_isinstance (by decide +kernel) (pa_cons (pv 0) (pa_cons (pe_bltn (v := .ty "int") (by rfl) T.n_int (by decide +kernel) rfl) pa_nil))) (pe_one (pe_callW O.h_is_name hr (by rfl) (fun σ => passAt (takes_of rfl rfl rfl rfl) σ) (pa_cons (pv 0) pa_nil))))))), fn_body (N := ["value"]) (sv_ret (ev_or (ev_op2 ar_slot (ar_val ev_non) o_isN) (ev_or (ev_cb (al_cons ar_slot (al_cons (ar_val ev_ty) al_nil)) o_isi) (ev_callS (al_cons ar_slot al_nil))))) (by decide) h⟩
structure O3 (P : Program) (w : World) (K : PySem.W.Frag) (mg : Str → Option Value) (base : Heap) : Prop extends O2 P w K mg base where
  h_is_value : HasFn P w K mg base (L2.CX P w) 2 "is_value" ["value"] (spV K f_isvalue)
abbrev s_issame : Stmt := top 8
theorem sc_issame : FnScope ["one", "other"] ["one", "other"] (defScope s_issame) := ⟨rfl, rfl, rfl, by decide +kernel, rfl, by decide +kernel, by decide +kernel⟩
noncomputable def v_issame : VS := (vRet (vAnd (vOp fEq (v2 (vVal (vCall f_kindof (vCons (vSlot 0) vNil))) (vVal (vCall f_kindof (vCons (vSlot 1) vNil))))) (vOp fEq (v2 (vSlot 0) (vSlot 1)))))
noncomputable def f_issame : FnV := fnOf 2 2 [] v_issame
theorem ok_issame (D : Def K mg "is_same" s_issame) (T : Tx K mg kA tL tF tM) (O : O3 P w K mg base) : HasFn P w K mg base (L2.CX P w) 2 "is_same" ["one", "other"] (spV K f_issame) := by
  obtain ⟨f, fd, F, hm⟩ := D
  refine ⟨f, fd, F.okX sc_issame (fun vs H Q E h => spV_len h) (fun cdv A outer s H vs Q E hr h => ?_), hm, F.kp, F.binds fun _ _ _ _ _ _ us hl => match us, hl with | [_, _], _ => rfl⟩
  exact ⟨_, (pss_one (ps_ret (pe_and (pe_cmpR (u_eq hr.units) (pe_callW O.h_kind_of hr (by rfl) (fun σ => passAt (takes_of rfl rfl rfl rfl) σ) (pa_cons (pv 0) pa_nil)) (pe_callW O.h_kind_of hr (by rfl) (fun σ => passAt (takes_of rfl rfl rfl rfl) σ) (pa_cons (pv 1) pa_nil)) (nomark _)) (pe_one (pe_cmpR (u_eq hr.units) (pv 0) (pv 1) (nomark _)))))), fn_body (N := ["one", "other"]) (sv_ret (ev_and (ev_op2 (ar_val (ev_callS (al_cons ar_slot al_nil))) (ar_val (ev_callS (al_cons ar_slot al_nil))) o_eq) (ev_op2 ar_slot ar_slot o_eq))) (by decide) h⟩
structure O4 (P : Program) (w : World) (K : PySem.W.Frag) (mg : Str → Option Value) (base : Heap) : Prop extends O3 P w K mg base where
  h_is_same : HasFn P w K mg base (L2.CX P w) 2 "is_same" ["one", "other"] (spV K f_issame)
abbrev s_rank : Stmt := top 9
theorem sc_rank : FnScope ["value", "kind"] ["value"] (defScope s_rank) := ⟨rfl, rfl, rfl, by decide +kernel, rfl, by decide +kernel, by decide +kernel⟩
noncomputable def v_rank : VS := (vSeq (vSet 1 (vCall f_kindof (vCons (vSlot 0) vNil)))
    (vSeq (vIfS (vB (vOp fEq (v2 (vSlot 1) (vVal (vC (.str "word")))))) (vRet (vOp fTup (vCons (vKeep (vC (.int (2)))) (vCons (vKeep (vC (.int (0)))) (vCons (vKeep (vVar 0)) vNil))))) vNext)
    (vRet (vOp fTup (vCons (vKeep (vOp (fIndex ["none", "number", "word", "truth"]) (vCons (vSlot 1) vNil))) (vCons (vKeep (vIf (vB (vOp (fIsN false) (v2 (vSlot 0) (vVal (vC .non))))) (vC (.int (0))) (vOp fInt (vCons (vSlot 0) vNil)))) (vCons (vKeep (vC (.str ""))) vNil)))))))
noncomputable def f_rank : FnV := fnOf 1 2 ([1] ++ (([] ++ []) ++ [])) v_rank
theorem ok_rank (D : Def K mg "rank" s_rank) (T : Tx K mg kA tL tF tM) (O : O4 P w K mg base) : HasFn P w K mg base (L2.CX P w) 2 "rank" ["value"] (spV K f_rank) := by
  obtain ⟨f, fd, F, hm⟩ := D
  refine ⟨f, fd, F.okX sc_rank (fun vs H Q E h => spV_len h) (fun cdv A outer s H vs Q E hr h => ?_), hm, F.kp, F.binds fun _ _ _ _ _ _ us hl => match us, hl with | [_], _ => rfl⟩
  exact ⟨_, (pss_cons (ps_set (i := 1) sc_rank.nd rfl (Or.inl rfl) (pe_callW O.h_kind_of hr (by rfl) (fun σ => passAt (takes_of rfl rfl rfl rfl) σ) (pa_cons (pv 0) pa_nil)))
    (pss_cons (ps_if (pt_cmpR (u_eq hr.units) (pv 1) pe_str (nomark _)) (pss_one (ps_ret (pe_tup (pa_cons pe_int (pa_cons pe_int (pa_cons (pv 0) pa_nil)))))) pss_nil)
    (pss_one (ps_ret (pe_tup (pa_cons (pe_bm PySem.F.plainAttrs_tuple PySem.F.slot_tuple_index PySem.F.type_tuple_index mt_tup_index (pe_glob (v := .ref kA) (by rfl) T.m_KINDS rfl) (pa_cons (pv 1) pa_nil)) (pa_cons (pe_ifExp (pt_cmpR op_isN (pv 0) pe_non (nomark _)) pe_int (pe_callTy call_int1 (by rfl) T.n_int (by decide +kernel) (pa_cons (pv 0) pa_nil))) (pa_cons pe_str pa_nil)))))))), fn_body (N := ["value", "kind"]) (sv_seq (sv_set (ev_callS (al_cons ar_slot al_nil)))
    (sv_seq (sv_if (tv_test (ev_op2 ar_slot (ar_val ev_str) o_eq)) (sv_ret (ev_tup (al_cons (ar_keep ev_int) (al_cons (ar_keep ev_int) (al_cons (ar_keep ev_var) al_nil))))) sv_next)
    (sv_ret (ev_tup (al_cons (ar_keep (ev_index T.k_KINDS (al_cons ar_slot al_nil))) (al_cons (ar_keep (ev_if (tv_test (ev_op2 ar_slot (ar_val ev_non) o_isN)) ev_int (ev_cb (al_cons ar_slot al_nil) o_int))) (al_cons (ar_keep ev_str) al_nil))))))) (by decide) h⟩
structure O5 (P : Program) (w : World) (K : PySem.W.Frag) (mg : Str → Option Value) (base : Heap) : Prop extends O4 P w K mg base where
  h_rank : HasFn P w K mg base (L2.CX P w) 2 "rank" ["value"] (spV K f_rank)
abbrev s_inorder : Stmt := top 10
theorem sc_inorder : FnScope ["values", "found", "value", "key"] ["values"] (defScope s_inorder) := ⟨rfl, rfl, rfl, by decide +kernel, rfl, by decide +kernel, by decide +kernel⟩
noncomputable def v_inorder : VS := (vSeq (vSet 1 (vDc [2] (vItems (vSlot 0)) (gvName 2) vTrue (vCall f_rank (vCons (vSlot 2) vNil)) (vVar 2)))
    (vRet (vLc [3] (vItems (vVal (vOp fSorted (vCons (vSlot 1) vNil)))) (gvName 3) vTrue (vOp fIxA (v2 (vSlot 1) (vSlot 3))))))
noncomputable def f_inorder : FnV := fnOf 1 4 ([1] ++ []) v_inorder
theorem ok_inorder (D : Def K mg "in_order" s_inorder) (T : Tx K mg kA tL tF tM) (O : O5 P w K mg base) : HasFn P w K mg base (L2.CX P w) 3 "in_order" ["values"] (spV K f_inorder) := by
  obtain ⟨f, fd, F, hm⟩ := D
  refine ⟨f, fd, F.okX sc_inorder (fun vs H Q E h => spV_len h) (fun cdv A outer s H vs Q E hr h => ?_), hm, F.kp, F.binds fun _ _ _ _ _ _ us hl => match us, hl with | [_], _ => rfl⟩
  exact ⟨_, (pss_cons (ps_set (i := 1) sc_inorder.nd rfl (Or.inr rfl) (pe_dcG (own := [("value", 2)]) (g := gName 2) (tt := tYes) (fun _ h hb => dt_empty h hb) (fun _ _ _ _ _ => st_t hr.units) (by rfl) sc_inorder.nd (pi_seq (pv 0)) (blkOk_by (own := [("value", 2)]) (N := ["values", "found", "value", "key"]) (sc := defScope s_inorder) (by decide +kernel)) (fun _ _ _ _ _ => (pg_name (i := 2) sc_inorder.nd rfl (Or.inl rfl))) (fun _ _ _ _ _ => pts_nil) (fun _ _ _ _ _ => (pe_callW O.h_rank hr (by rfl) passS (pa_cons (pv 2) pa_nil))) (fun _ _ _ _ _ => (pv 2))))
    (pss_one (ps_ret (pe_lc (own := [("key", 3)]) (g := gName 3) (tt := tYes) (by rfl) sc_inorder.nd (pi_seq (pe_callB (cr_sortA (by rfl) hr.units) (by rfl) T.n_sorted (by decide +kernel) (pa_cons (pv 1) pa_nil))) (blkOk_by (own := [("key", 3)]) (N := ["values", "found", "value", "key"]) (sc := defScope s_inorder) (by decide +kernel)) (fun _ _ _ _ _ => (pg_name (i := 3) sc_inorder.nd rfl (Or.inl rfl))) (fun _ _ _ _ _ => pts_nil) (fun _ _ _ _ _ => (pe_ix (ix_any hr.units) (pv 1) (pv 3) (fun _ _ => rfl))))))), fn_body (N := ["values", "found", "value", "key"]) (sv_seq (sv_set (ev_dc (iv_seq ar_slot) gv_name tv_yes (ev_callS (al_cons ar_slot al_nil)) ev_var (by decide)))
    (sv_ret (ev_lc (iv_seq (ar_val (ev_cb (al_cons ar_slot al_nil) o_sorted))) gv_name tv_yes (ev_op2 ar_slot ar_slot o_ixA) (by decide)))) (by decide) h⟩
structure O6 (P : Program) (w : World) (K : PySem.W.Frag) (mg : Str → Option Value) (base : Heap) : Prop extends O5 P w K mg base where
  h_in_order : HasFn P w K mg base (L2.CX P w) 3 "in_order" ["values"] (spV K f_inorder)
abbrev s_show : Stmt := top 11
theorem sc_show : FnScope ["value", "kind"] ["value"] (defScope s_show) := ⟨rfl, rfl, rfl, by decide +kernel, rfl, by decide +kernel, by decide +kernel⟩
noncomputable def v_show : VS := (vSeq (vSet 1 (vCall f_kindof (vCons (vSlot 0) vNil)))
    (vSeq (vIfS (vB (vOp fEq (v2 (vSlot 1) (vVal (vC (.str "none")))))) (vRet (vC (.str "none"))) vNext)
    (vSeq (vIfS (vB (vOp fEq (v2 (vSlot 1) (vVal (vC (.str "truth")))))) (vRet (vIf (vB (vVar 0)) (vC (.str "true")) (vC (.str "false")))) vNext)
    (vRet (vIf (vB (vOp fEq (v2 (vSlot 1) (vVal (vC (.str "number")))))) (vOp fFmt (vCons (vSlot 0) vNil)) (vJoin (vJcons (vC (.str "'")) (vJcons (vOp fFmt (vCons (vSlot 0) vNil)) vJnil))))))))
noncomputable def f_show : FnV := fnOf 1 2 ([1] ++ (([] ++ []) ++ (([] ++ []) ++ []))) v_show
theorem ok_show (D : Def K mg "show" s_show) (T : Tx K mg kA tL tF tM) (O : O6 P w K mg base) : HasFn P w K mg base (L2.CX P w) 2 "show" ["value"] (spV K f_show) := by
  obtain ⟨f, fd, F, hm⟩ := D
  refine ⟨f, fd, F.okX sc_show (fun vs H Q E h => spV_len h) (fun cdv A outer s H vs Q E hr h => ?_), hm, F.kp, F.binds fun _ _ _ _ _ _ us hl => match us, hl with | [_], _ => rfl⟩
  exact ⟨_, (pss_cons (ps_set (i := 1) sc_show.nd rfl (Or.inl rfl) (pe_callW O.h_kind_of hr (by rfl) (fun σ => passAt (takes_of rfl rfl rfl rfl) σ) (pa_cons (pv 0) pa_nil)))
    (pss_cons (ps_if (pt_cmpR (u_eq hr.units) (pv 1) pe_str (nomark _)) (pss_one (ps_ret pe_str)) pss_nil)
    (pss_cons (ps_if (pt_cmpR (u_eq hr.units) (pv 1) pe_str (nomark _)) (pss_one (ps_ret (pe_ifExp (pt_val (pv 0)) pe_str pe_str))) pss_nil)
    (pss_one (ps_ret (pe_ifExp (pt_cmpR (u_eq hr.units) (pv 1) pe_str (nomark _)) (pe_joined1 (pe_fmt (pv 0))) (pe_joined (.cons pe_str (.cons (pe_fmt (pv 0)) .nil))))))))), fn_body (N := ["value", "kind"]) (sv_seq (sv_set (ev_callS (al_cons ar_slot al_nil)))
    (sv_seq (sv_if (tv_test (ev_op2 ar_slot (ar_val ev_str) o_eq)) (sv_ret ev_str) sv_next)
    (sv_seq (sv_if (tv_test (ev_op2 ar_slot (ar_val ev_str) o_eq)) (sv_ret (ev_if (tv_val ev_var) ev_str ev_str)) sv_next)
    (sv_ret (ev_if (tv_test (ev_op2 ar_slot (ar_val ev_str) o_eq)) (ev_fmt ar_slot) (ev_joined (jv_cons ev_str (jv_cons (ev_fmt ar_slot) jv_nil)))))))) (by decide) h⟩
structure O7 (P : Program) (w : World) (K : PySem.W.Frag) (mg : Str → Option Value) (base : Heap) : Prop extends O6 P w K mg base where
  h_show : HasFn P w K mg base (L2.CX P w) 2 "show" ["value"] (spV K f_show)
abbrev s_feed : Stmt := top 13
theorem sc_feed : FnScope ["_law_script", "_law_k", "_law_cell", "_law_own"] ["_law_script", "_law_k"] (defScope s_feed) := ⟨rfl, rfl, rfl, by decide +kernel, rfl, by decide +kernel, by decide +kernel⟩
noncomputable def v_feed : VS := (vSeq (vSet 2 (vOp fAdd (v2 (vVal (vOp fMul (v2 (vVal (vC (.int (7621)))) (vSlot 1)))) (vVal (vC (.int (10313)))))))
    (vSeq (vIfS (vB (vOp fLt (v2 (vSlot 1) (vVal (vOp fLen (vCons (vSlot 0) vNil)))))) (vSet 2 (vOp fAbs (vCons (vVal (vOp fIxA (v2 (vSlot 0) (vSlot 1)))) vNil))) (vIfS (vB (vOp fGt (v2 (vVal (vOp fLen (vCons (vSlot 0) vNil))) (vVal (vC (.int (0))))))) (vSet 2 (vOp fAdd (v2 (vVal (vOp fMul (v2 (vVal (vOp fMod (v2 (vVal (vOp fAbs (vCons (vVal (vOp fIxA (v2 (vSlot 0) (vVal (vOp fMod (v2 (vSlot 1) (vVal (vOp fLen (vCons (vSlot 0) vNil))))))))) vNil))) (vVal (vC (.int (2147483629))))))) (vVal (vC (.int (37))))))) (vVal (vOp fMul (v2 (vVal (vC (.int (8513)))) (vSlot 1))))))) vNext))
    (vSeq (vSet 3 (vC (.int (0))))
    (vSeq (vIfS (vB (vOp fGe (v2 (vSlot 2) (vVal (vOp fPow (v2 (vVal (vC (.int (10)))) (vVal (vC (.int (18)))))))))) (vSet 3 (vVar 2)) vNext)
    (vRet (vOp fLst (vCons (vKeep (vVar 3)) (vCons (vKeep (vOp fAdd (v2 (vVal (vOp fMod (v2 (vVal (vOp fAdd (v2 (vVal (vOp fMul (v2 (vVal (vOp fMod (v2 (vSlot 2) (vVal (vC (.int (2147483629))))))) (vVal (vC (.int (48271))))))) (vVal (vOp fMul (v2 (vVal (vC (.int (50021)))) (vSlot 1))))))) (vVal (vC (.int (2147483629))))))) (vVal (vC (.int (1))))))) vNil))))))))
noncomputable def f_feed : FnV := fnOf 2 4 ([2] ++ (([2] ++ ([2] ++ [])) ++ ([3] ++ (([3] ++ []) ++ [])))) v_feed
theorem ok_feed (D : Def K mg "_law_feed" s_feed) (T : Tx K mg kA tL tF tM) (O : O7 P w K mg base) : HasFn P w K mg base (L2.CX P w) 1 "_law_feed" ["_law_script", "_law_k"] (spV K f_feed) := by
  obtain ⟨f, fd, F, hm⟩ := D
  refine ⟨f, fd, F.okX sc_feed (fun vs H Q E h => spV_len h) (fun cdv A outer s H vs Q E hr h => ?_), hm, F.kp, F.binds fun _ _ _ _ _ _ us hl => match us, hl with | [_, _], _ => rfl⟩
  exact ⟨_, (pss_cons (ps_set (i := 2) sc_feed.nd rfl (Or.inl rfl) (pe_op u_add (pe_op u_mul pe_int (pv 1)) pe_int))
    (pss_cons (ps_if (pt_cmpR u_lt (pv 1) (pe_callB u_len (by rfl) T.n_len (by decide +kernel) (pa_cons (pv 0) pa_nil)) (nomark _)) (pss_one (ps_set (i := 2) sc_feed.nd rfl (Or.inl rfl) (pe_callB call_abs (by rfl) T.n_abs (by decide +kernel) (pa_cons (pe_ix (ix_any hr.units) (pv 0) (pv 1) (fun _ _ => rfl)) pa_nil)))) (pss_one (ps_if (pt_cmpR op_gt (pe_callB u_len (by rfl) T.n_len (by decide +kernel) (pa_cons (pv 0) pa_nil)) pe_int (nomark _)) (pss_one (ps_set (i := 2) sc_feed.nd rfl (Or.inl rfl) (pe_op u_add (pe_op u_mul (pe_op op_mod (pe_callB call_abs (by rfl) T.n_abs (by decide +kernel) (pa_cons (pe_ix (ix_any hr.units) (pv 0) (pe_op op_mod (pv 1) (pe_callB u_len (by rfl) T.n_len (by decide +kernel) (pa_cons (pv 0) pa_nil))) (fun _ _ => rfl)) pa_nil)) pe_int) pe_int) (pe_op u_mul pe_int (pv 1))))) pss_nil)))
    (pss_cons (ps_set (i := 3) sc_feed.nd rfl (Or.inl rfl) pe_int)
    (pss_cons (ps_if (pt_cmpR op_ge (pv 2) (pe_op op_pow pe_int pe_int) (nomark _)) (pss_one (ps_set (i := 3) sc_feed.nd rfl (Or.inl rfl) (pv 2))) pss_nil)
    (pss_one (ps_ret (pe_lst (pa_cons (pv 3) (pa_cons (pe_op u_add (pe_op op_mod (pe_op u_add (pe_op u_mul (pe_op op_mod (pv 2) pe_int) pe_int) (pe_op u_mul pe_int (pv 1))) pe_int) pe_int) pa_nil))))))))), fn_body (N := ["_law_script", "_law_k", "_law_cell", "_law_own"]) (sv_seq (sv_set (ev_op2 (ar_val (ev_op2 (ar_val ev_int) ar_slot o_mul)) (ar_val ev_int) o_add))
    (sv_seq (sv_if (tv_test (ev_op2 ar_slot (ar_val (ev_cb (al_cons ar_slot al_nil) o_len)) o_cmp)) (sv_set (ev_cb (al_cons (ar_val (ev_op2 ar_slot ar_slot o_ixA)) al_nil) o_abs)) (sv_if (tv_test (ev_op2 (ar_val (ev_cb (al_cons ar_slot al_nil) o_len)) (ar_val ev_int) o_ib)) (sv_set (ev_op2 (ar_val (ev_op2 (ar_val (ev_op2 (ar_val (ev_cb (al_cons (ar_val (ev_op2 ar_slot (ar_val (ev_op2 ar_slot (ar_val (ev_cb (al_cons ar_slot al_nil) o_len)) o_mod)) o_ixA)) al_nil) o_abs)) (ar_val ev_int) o_mod)) (ar_val ev_int) o_mul)) (ar_val (ev_op2 (ar_val ev_int) ar_slot o_mul)) o_add)) sv_next))
    (sv_seq (sv_set ev_int)
    (sv_seq (sv_if (tv_test (ev_op2 ar_slot (ar_val (ev_op2 (ar_val ev_int) (ar_val ev_int) o_pow)) o_ib)) (sv_set ev_var) sv_next)
    (sv_ret (ev_lst (al_cons (ar_keep ev_var) (al_cons (ar_keep (ev_op2 (ar_val (ev_op2 (ar_val (ev_op2 (ar_val (ev_op2 (ar_val (ev_op2 ar_slot (ar_val ev_int) o_mod)) (ar_val ev_int) o_mul)) (ar_val (ev_op2 (ar_val ev_int) ar_slot o_mul)) o_add)) (ar_val ev_int) o_mod)) (ar_val ev_int) o_add)) al_nil)))))))) (by decide) h⟩
structure O8 (P : Program) (w : World) (K : PySem.W.Frag) (mg : Str → Option Value) (base : Heap) : Prop extends O7 P w K mg base where
  h_law_feed : HasFn P w K mg base (L2.CX P w) 1 "_law_feed" ["_law_script", "_law_k"] (spV K f_feed)
abbrev s_take : Stmt := top 14
theorem sc_take : FnScope ["_law_feed_here", "_law_many", "_law_digit", "_law_one"] ["_law_feed_here", "_law_many"] (defScope s_take) := ⟨rfl, rfl, rfl, by decide +kernel, rfl, by decide +kernel, by decide +kernel⟩
noncomputable def v_take : VS := (vSeq (vIfS (vB (vOp fGt (v2 (vVal (vOp fIxA (v2 (vSlot 0) (vVal (vC (.int (0))))))) (vVal (vC (.int (0))))))) (vSeq (vSet 2 (vOp fMod (v2 (vVal (vOp fIxA (v2 (vSlot 0) (vVal (vC (.int (0))))))) (vSlot 1))))
    (vSeq (vStore 0 (vOp fDiv (v2 (vVal (vOp fIxA (v2 (vSlot 0) (vVal (vC (.int (0))))))) (vSlot 1))) (vVal (vC (.int (0)))))
    (vRetV 2))) vNext)
    (vSeq (vSet 3 (vOp fMod (v2 (vVal (vOp fMul (v2 (vVal (vOp fIxA (v2 (vSlot 0) (vVal (vC (.int (1))))))) (vVal (vC (.int (48271))))))) (vVal (vC (.int (2147483647)))))))
    (vSeq (vStore 0 (vOp fAdd (v2 (vVal (vOp fMod (v2 (vVal (vOp fAdd (v2 (vVal (vOp fMul (v2 (vSlot 3) (vVal (vC (.int (40692))))))) (vVal (vC (.int (12345))))))) (vVal (vC (.int (2147483399))))))) (vVal (vC (.int (1)))))) (vVal (vC (.int (1)))))
    (vRet (vOp fMod (v2 (vVal (vOp fDiv (v2 (vVal (vOp fAdd (v2 (vVal (vOp fMul (v2 (vSlot 3) (vVal (vC (.int (2147483647))))))) (vVal (vOp fIxA (v2 (vSlot 0) (vVal (vC (.int (1)))))))))) (vVal (vC (.int (8191))))))) (vSlot 1)))))))
noncomputable def f_take : FnV := fnOf 2 4 ((([2] ++ ([] ++ [])) ++ []) ++ ([3] ++ ([] ++ []))) v_take
theorem ok_take (D : Def K mg "_law_take" s_take) (T : Tx K mg kA tL tF tM) (O : O8 P w K mg base) : HasFn P w K mg base (L2.CX P w) 1 "_law_take" ["_law_feed_here", "_law_many"] (spV K f_take) := by
  obtain ⟨f, fd, F, hm⟩ := D
  refine ⟨f, fd, F.okX sc_take (fun vs H Q E h => spV_len h) (fun cdv A outer s H vs Q E hr h => ?_), hm, F.kp, F.binds fun _ _ _ _ _ _ us hl => match us, hl with | [_, _], _ => rfl⟩
  exact ⟨_, (pss_cons (ps_if (pt_cmpR op_gt (pe_ix (ix_any hr.units) (pv 0) pe_int (fun _ _ => rfl)) pe_int (nomark _)) (pss_cons (ps_set (i := 2) sc_take.nd rfl (Or.inl rfl) (pe_op op_mod (pe_ix (ix_any hr.units) (pv 0) pe_int (fun _ _ => rfl)) (pv 1)))
    (pss_cons (ps_asg (pe_op op_fdivW (pe_ix (ix_any hr.units) (pv 0) pe_int (fun _ _ => rfl)) (pv 1)) (pg_sub (pv 0) pe_int set_list))
    (pss_one (ps_ret (pv 2))))) pss_nil)
    (pss_cons (ps_set (i := 3) sc_take.nd rfl (Or.inl rfl) (pe_op op_mod (pe_op u_mul (pe_ix (ix_any hr.units) (pv 0) pe_int (fun _ _ => rfl)) pe_int) pe_int))
    (pss_cons (ps_asg (pe_op u_add (pe_op op_mod (pe_op u_add (pe_op u_mul (pv 3) pe_int) pe_int) pe_int) pe_int) (pg_sub (pv 0) pe_int set_list))
    (pss_one (ps_ret (pe_op op_mod (pe_op op_fdivW (pe_op u_add (pe_op u_mul (pv 3) pe_int) (pe_ix (ix_any hr.units) (pv 0) pe_int (fun _ _ => rfl))) pe_int) (pv 1))))))), fn_body (N := ["_law_feed_here", "_law_many", "_law_digit", "_law_one"]) (sv_seq (sv_if (tv_test (ev_op2 (ar_val (ev_op2 ar_slot (ar_val ev_int) o_ixA)) (ar_val ev_int) o_ib)) (sv_seq (sv_set (ev_op2 (ar_val (ev_op2 ar_slot (ar_val ev_int) o_ixA)) ar_slot o_mod))
    (sv_seq (sv_store (ev_op2 (ar_val (ev_op2 ar_slot (ar_val ev_int) o_ixA)) ar_slot o_fdiv) (ar_val ev_int))
    sv_retV)) sv_next)
    (sv_seq (sv_set (ev_op2 (ar_val (ev_op2 (ar_val (ev_op2 ar_slot (ar_val ev_int) o_ixA)) (ar_val ev_int) o_mul)) (ar_val ev_int) o_mod))
    (sv_seq (sv_store (ev_op2 (ar_val (ev_op2 (ar_val (ev_op2 (ar_val (ev_op2 ar_slot (ar_val ev_int) o_mul)) (ar_val ev_int) o_add)) (ar_val ev_int) o_mod)) (ar_val ev_int) o_add) (ar_val ev_int))
    (sv_ret (ev_op2 (ar_val (ev_op2 (ar_val (ev_op2 (ar_val (ev_op2 ar_slot (ar_val ev_int) o_mul)) (ar_val (ev_op2 ar_slot (ar_val ev_int) o_ixA)) o_add)) (ar_val ev_int) o_fdiv)) ar_slot o_mod))))) (by decide) h⟩
structure O9 (P : Program) (w : World) (K : PySem.W.Frag) (mg : Str → Option Value) (base : Heap) : Prop extends O8 P w K mg base where
  h_law_take : HasFn P w K mg base (L2.CX P w) 1 "_law_take" ["_law_feed_here", "_law_many"] (spV K f_take)
abbrev s_mixed : Stmt := top 15
theorem sc_mixed : FnScope ["_law_feed_here", "_law_some", "_law_left", "_law_found", "_law_k"] ["_law_feed_here", "_law_some"] (defScope s_mixed) := ⟨rfl, rfl, rfl, by decide +kernel, rfl, by decide +kernel, by decide +kernel⟩
noncomputable def v_mixed : VS := (vSeq (vPar 2 3 (vOp fList (vCons (vSlot 1) vNil)) (vOp fLst vNil))
    (vSeq (vFor ([4] ++ []) (vOpI rng1 (vCons (vVal (vOp fLen (vCons (vSlot 2) vNil))) vNil)) (gvName 4) (vExpr (vMeth 3 mAppend (vCons (vKeep (vMeth 2 mPopAt (vCons (vVal (vCall f_take (vCons (vSlot 0) (vCons (vVal (vOp fLen (vCons (vSlot 2) vNil))) vNil)))) vNil))) vNil))))
    (vRetV 3)))
noncomputable def f_mixed : FnV := fnOf 2 5 ([2, 3] ++ (([4] ++ []) ++ [])) v_mixed
theorem ok_mixed (D : Def K mg "_law_mixed" s_mixed) (T : Tx K mg kA tL tF tM) (O : O9 P w K mg base) : HasFn P w K mg base (L2.CX P w) 2 "_law_mixed" ["_law_feed_here", "_law_some"] (spV K f_mixed) := by
  obtain ⟨f, fd, F, hm⟩ := D
  refine ⟨f, fd, F.okX sc_mixed (fun vs H Q E h => spV_len h) (fun cdv A outer s H vs Q E hr h => ?_), hm, F.kp, F.binds fun _ _ _ _ _ _ us hl => match us, hl with | [_, _], _ => rfl⟩
  exact ⟨_, (pss_cons (ps_par (i := 2) (j := 3) (by rfl) sc_mixed.nd rfl rfl (by decide) rfl rfl (pa_cons (pe_callTy call_list_of (by rfl) T.n_list (by decide +kernel) (pa_cons (pv 1) pa_nil)) (pa_cons (pe_lst pa_nil) pa_nil)) (by rfl))
    (pss_cons (ps_for (passes_of rfl) rfl (pi_range1 (by rfl) T.n_range (pa_cons (pe_callB u_len (by rfl) T.n_len (by decide +kernel) (pa_cons (pv 2) pa_nil)) pa_nil)) (pg_name (i := 4) sc_mixed.nd rfl (Or.inl rfl)) (pss_one (ps_expr (pe_bm PySem.F.plainAttrs_list PySem.F.slot_list_append PySem.F.type_list_append mt_append (pv 3) (pa_cons (pe_bm PySem.F.plainAttrs_list PySem.F.slot_list_pop PySem.F.type_list_pop mt_popAt (pv 2) (pa_cons (pe_callW O.h_law_take hr (by rfl) (fun σ => passAt (takes_of rfl rfl rfl rfl) σ) (pa_cons (pv 0) (pa_cons (pe_callB u_len (by rfl) T.n_len (by decide +kernel) (pa_cons (pv 2) pa_nil)) pa_nil))) pa_nil)) pa_nil)))))
    (pss_one (ps_ret (pv 3))))), fn_body (N := ["_law_feed_here", "_law_some", "_law_left", "_law_found", "_law_k"]) (sv_seq (sv_par (ev_cb (al_cons ar_slot al_nil) o_list) (ev_lst al_nil))
    (sv_seq (sv_for (iv_rng1 (al_cons (ar_val (ev_cb (al_cons ar_slot al_nil) o_len)) al_nil)) gv_name (sv_expr (ev_meth (al_cons (ar_keep (ev_meth (al_cons (ar_val (ev_callS (al_cons ar_slot (al_cons (ar_val (ev_cb (al_cons ar_slot al_nil) o_len)) al_nil)))) al_nil) o_popAt)) al_nil) o_append)))
    sv_retV)) (by decide) h⟩
structure O10 (P : Program) (w : World) (K : PySem.W.Frag) (mg : Str → Option Value) (base : Heap) : Prop extends O9 P w K mg base where
  h_law_mixed : HasFn P w K mg base (L2.CX P w) 2 "_law_mixed" ["_law_feed_here", "_law_some"] (spV K f_mixed)
abbrev s_titles : Stmt := top 16
theorem sc_titles : FnScope ["_law_feed_here", "_law_many", "_law_signs", "_law_start", "_law_form", "_law_k"] ["_law_feed_here", "_law_many"] (defScope s_titles) := ⟨rfl, rfl, rfl, by decide +kernel, rfl, by decide +kernel, by decide +kernel⟩
noncomputable def v_titles : VS := (vSeq (vAsg (gvTup 2 (gvCons (gvName 2) (gvCons (gvName 3) gvNil))) (vOp fTup (vCons (vKeep (vC (.str "abcdefghijklmnopqrstuvwxyz0123456789"))) (vCons (vKeep (vCall f_take (vCons (vSlot 0) (vCons (vVal (vC (.int (26)))) vNil)))) vNil))))
    (vSeq (vSet 4 (vOp fMul (v2 (vVal (vCall f_take (vCons (vSlot 0) (vCons (vVal (vC (.int (5)))) vNil)))) (vVal (vOp fInt (vCons (vVal (vOp fLt (v2 (vSlot 1) (vVal (vC (.int (37))))))) vNil))))))
    (vSeq (vIfS (vAndT (vB (vOp fEq (v2 (vSlot 4) (vVal (vC (.int (4))))))) (vB (vOp fLt (v2 (vSlot 1) (vVal (vC (.int (5)))))))) (vRet (vOp fSlB (v2 (vVal (vCall f_mixed (vCons (vSlot 0) (vCons (vVal (vOp fLst (vCons (vKeep (vC (.str "word"))) (vCons (vKeep (vC (.str "truth"))) (vCons (vKeep (vC (.str "number"))) (vCons (vKeep (vC (.str "none"))) vNil)))))) vNil)))) (vSlot 1)))) vNext)
    (vSeq (vIfS (vB (vOp fEq (v2 (vSlot 4) (vVal (vC (.int (0))))))) (vRet (vLc [5] (vOpI rng1 (vCons (vSlot 1) vNil)) (gvName 5) vTrue (vOp fAdd (v2 (vVal (vOp fIxA (v2 (vSlot 2) (vVal (vOp fMod (v2 (vVal (vOp fAdd (v2 (vSlot 3) (vSlot 5)))) (vVal (vC (.int (26)))))))))) (vVal (vOp fStr (vCons (vVal (vOp fAdd (v2 (vVal (vOp fMul (v2 (vSlot 3) (vVal (vC (.int (7))))))) (vSlot 5)))) vNil))))))) vNext)
    (vSeq (vIfS (vB (vOp fEq (v2 (vSlot 4) (vVal (vC (.int (1))))))) (vRet (vCall f_mixed (vCons (vSlot 0) (vCons (vVal (vLc [5] (vOpI rng1 (vCons (vSlot 1) vNil)) (gvName 5) vTrue (vOp fAdd (v2 (vVal (vC (.str "k"))) (vVal (vOp fIxA (v2 (vSlot 2) (vVal (vOp fMod (v2 (vVal (vOp fAdd (v2 (vSlot 3) (vVal (vOp fMul (v2 (vVal (vC (.int (5)))) (vSlot 5))))))) (vVal (vC (.int (36)))))))))))))) vNil)))) vNext)
    (vSeq (vIfS (vB (vOp fEq (v2 (vSlot 4) (vVal (vC (.int (2))))))) (vRet (vCall f_mixed (vCons (vSlot 0) (vCons (vVal (vLc [5] (vOpI rng1 (vCons (vSlot 1) vNil)) (gvName 5) vTrue (vOp fAdd (v2 (vVal (vOp fAdd (v2 (vVal (vC (.str "q0zz"))) (vVal (vOp fIxA (v2 (vSlot 2) (vVal (vOp fMod (v2 (vVal (vOp fAdd (v2 (vSlot 3) (vSlot 5)))) (vVal (vC (.int (36))))))))))))) (vVal (vC (.str "b"))))))) vNil)))) vNext)
    (vRet (vCall f_mixed (vCons (vSlot 0) (vCons (vVal (vLc [5] (vOpI rng1 (vCons (vSlot 1) vNil)) (gvName 5) vTrue (vOp fMul (v2 (vVal (vOp fIxA (v2 (vSlot 2) (vVal (vOp fMod (v2 (vSlot 5) (vVal (vC (.int (26)))))))))) (vVal (vOp fAdd (v2 (vVal (vOp fAdd (v2 (vVal (vC (.int (1)))) (vVal (vOp fDiv (v2 (vSlot 5) (vVal (vC (.int (26)))))))))) (vVal (vOp fMod (v2 (vSlot 3) (vVal (vC (.int (3)))))))))))))) vNil))))))))))
noncomputable def f_titles : FnV := fnOf 2 6 ((([2] ++ ([3] ++ []))) ++ ([4] ++ (([] ++ []) ++ (([] ++ []) ++ (([] ++ []) ++ (([] ++ []) ++ [])))))) v_titles
theorem ok_titles (D : Def K mg "_law_titles" s_titles) (T : Tx K mg kA tL tF tM) (O : O10 P w K mg base) : HasFn P w K mg base (L2.CX P w) 3 "_law_titles" ["_law_feed_here", "_law_many"] (spV K f_titles) := by
  obtain ⟨f, fd, F, hm⟩ := D
  refine ⟨f, fd, F.okX sc_titles (fun vs H Q E h => spV_len h) (fun cdv A outer s H vs Q E hr h => ?_), hm, F.kp, F.binds fun _ _ _ _ _ _ us hl => match us, hl with | [_, _], _ => rfl⟩
  exact ⟨_, (pss_cons (ps_asg (pe_tup (pa_cons pe_str (pa_cons (pe_callW O.h_law_take hr (by rfl) (fun σ => passAt (takes_of rfl rfl rfl rfl) σ) (pa_cons (pv 0) (pa_cons pe_int pa_nil))) pa_nil))) (pg_tup rfl (pgs_cons (pg_name (i := 2) sc_titles.nd rfl (Or.inr rfl)) (pgs_cons (pg_name (i := 3) sc_titles.nd rfl (Or.inr rfl)) pgs_nil))))
    (pss_cons (ps_set (i := 4) sc_titles.nd rfl (Or.inl rfl) (pe_op u_mul (pe_callW O.h_law_take hr (by rfl) (fun σ => passAt (takes_of rfl rfl rfl rfl) σ) (pa_cons (pv 0) (pa_cons pe_int pa_nil))) (pe_callTy call_int1 (by rfl) T.n_int (by decide +kernel) (pa_cons (pe_cmpR u_lt (pv 1) pe_int (nomark _)) pa_nil))))
    (pss_cons (ps_if (PW.pt (pw_and (pt_cmpR (u_eq hr.units) (pv 4) pe_int (nomark _)) (pw_and1 (pt_cmpR u_lt (pv 1) pe_int (nomark _))))) (pss_one (ps_ret (pe_slice u_sl (pe_callW O.h_law_mixed hr (by rfl) (fun σ => passAt (takes_of rfl rfl rfl rfl) σ) (pa_cons (pv 0) (pa_cons (pe_lst (pa_cons pe_str (pa_cons pe_str (pa_cons pe_str (pa_cons pe_str pa_nil))))) pa_nil))) po_none (po_some (pv 1))))) pss_nil)
    (pss_cons (ps_if (pt_cmpR (u_eq hr.units) (pv 4) pe_int (nomark _)) (pss_one (ps_ret (pe_lc (own := [("_law_k", 5)]) (g := gName 5) (tt := tYes) (by rfl) sc_titles.nd (pi_range1 (by rfl) T.n_range (pa_cons (pv 1) pa_nil)) (blkOk_by (own := [("_law_k", 5)]) (N := ["_law_feed_here", "_law_many", "_law_signs", "_law_start", "_law_form", "_law_k"]) (sc := defScope s_titles) (by decide +kernel)) (fun _ _ _ _ _ => (pg_name (i := 5) sc_titles.nd rfl (Or.inl rfl))) (fun _ _ _ _ _ => pts_nil) (fun _ _ _ _ _ => (pe_op u_add (pe_ix (ix_any hr.units) (pv 2) (pe_op op_mod (pe_op u_add (pv 3) (pv 5)) pe_int) (fun _ _ => rfl)) (pe_callTy call_str_int (by rfl) T.n_str (by decide +kernel) (pa_cons (pe_op u_add (pe_op u_mul (pv 3) pe_int) (pv 5)) pa_nil))))))) pss_nil)
    (pss_cons (ps_if (pt_cmpR (u_eq hr.units) (pv 4) pe_int (nomark _)) (pss_one (ps_ret (pe_callW O.h_law_mixed hr (by rfl) (fun σ => passAt (takes_of rfl rfl rfl rfl) σ) (pa_cons (pv 0) (pa_cons (pe_lc (own := [("_law_k", 5)]) (g := gName 5) (tt := tYes) (by rfl) sc_titles.nd (pi_range1 (by rfl) T.n_range (pa_cons (pv 1) pa_nil)) (blkOk_by (own := [("_law_k", 5)]) (N := ["_law_feed_here", "_law_many", "_law_signs", "_law_start", "_law_form", "_law_k"]) (sc := defScope s_titles) (by decide +kernel)) (fun _ _ _ _ _ => (pg_name (i := 5) sc_titles.nd rfl (Or.inl rfl))) (fun _ _ _ _ _ => pts_nil) (fun _ _ _ _ _ => (pe_op u_add pe_str (pe_ix (ix_any hr.units) (pv 2) (pe_op op_mod (pe_op u_add (pv 3) (pe_op u_mul pe_int (pv 5))) pe_int) (fun _ _ => rfl))))) pa_nil))))) pss_nil)
    (pss_cons (ps_if (pt_cmpR (u_eq hr.units) (pv 4) pe_int (nomark _)) (pss_one (ps_ret (pe_callW O.h_law_mixed hr (by rfl) (fun σ => passAt (takes_of rfl rfl rfl rfl) σ) (pa_cons (pv 0) (pa_cons (pe_lc (own := [("_law_k", 5)]) (g := gName 5) (tt := tYes) (by rfl) sc_titles.nd (pi_range1 (by rfl) T.n_range (pa_cons (pv 1) pa_nil)) (blkOk_by (own := [("_law_k", 5)]) (N := ["_law_feed_here", "_law_many", "_law_signs", "_law_start", "_law_form", "_law_k"]) (sc := defScope s_titles) (by decide +kernel)) (fun _ _ _ _ _ => (pg_name (i := 5) sc_titles.nd rfl (Or.inl rfl))) (fun _ _ _ _ _ => pts_nil) (fun _ _ _ _ _ => (pe_op u_add (pe_op u_add pe_str (pe_ix (ix_any hr.units) (pv 2) (pe_op op_mod (pe_op u_add (pv 3) (pv 5)) pe_int) (fun _ _ => rfl))) pe_str))) pa_nil))))) pss_nil)
    (pss_one (ps_ret (pe_callW O.h_law_mixed hr (by rfl) (fun σ => passAt (takes_of rfl rfl rfl rfl) σ) (pa_cons (pv 0) (pa_cons (pe_lc (own := [("_law_k", 5)]) (g := gName 5) (tt := tYes) (by rfl) sc_titles.nd (pi_range1 (by rfl) T.n_range (pa_cons (pv 1) pa_nil)) (blkOk_by (own := [("_law_k", 5)]) (N := ["_law_feed_here", "_law_many", "_law_signs", "_law_start", "_law_form", "_law_k"]) (sc := defScope s_titles) (by decide +kernel)) (fun _ _ _ _ _ => (pg_name (i := 5) sc_titles.nd rfl (Or.inl rfl))) (fun _ _ _ _ _ => pts_nil) (fun _ _ _ _ _ => (pe_op u_mul (pe_ix (ix_any hr.units) (pv 2) (pe_op op_mod (pv 5) pe_int) (fun _ _ => rfl)) (pe_op u_add (pe_op u_add pe_int (pe_op op_fdivW (pv 5) pe_int)) (pe_op op_mod (pv 3) pe_int))))) pa_nil))))))))))), fn_body (N := ["_law_feed_here", "_law_many", "_law_signs", "_law_start", "_law_form", "_law_k"]) (sv_seq (sv_asg (ev_tup (al_cons (ar_keep ev_str) (al_cons (ar_keep (ev_callS (al_cons ar_slot (al_cons (ar_val ev_int) al_nil)))) al_nil))) (gv_tup (gvs_cons gv_name (gvs_cons gv_name gvs_nil))))
    (sv_seq (sv_set (ev_op2 (ar_val (ev_callS (al_cons ar_slot (al_cons (ar_val ev_int) al_nil)))) (ar_val (ev_cb (al_cons (ar_val (ev_op2 ar_slot (ar_val ev_int) o_cmp)) al_nil) o_int)) o_mul))
    (sv_seq (sv_if (tv_and (tv_test (ev_op2 ar_slot (ar_val ev_int) o_eq)) (tv_test (ev_op2 ar_slot (ar_val ev_int) o_cmp))) (sv_ret (ev_slB (ar_val (ev_callS (al_cons ar_slot (al_cons (ar_val (ev_lst (al_cons (ar_keep ev_str) (al_cons (ar_keep ev_str) (al_cons (ar_keep ev_str) (al_cons (ar_keep ev_str) al_nil)))))) al_nil)))) ar_slot)) sv_next)
    (sv_seq (sv_if (tv_test (ev_op2 ar_slot (ar_val ev_int) o_eq)) (sv_ret (ev_lc (iv_rng1 (al_cons ar_slot al_nil)) gv_name tv_yes (ev_op2 (ar_val (ev_op2 ar_slot (ar_val (ev_op2 (ar_val (ev_op2 ar_slot ar_slot o_add)) (ar_val ev_int) o_mod)) o_ixA)) (ar_val (ev_cb (al_cons (ar_val (ev_op2 (ar_val (ev_op2 ar_slot (ar_val ev_int) o_mul)) ar_slot o_add)) al_nil) o_str)) o_add) (by decide))) sv_next)
    (sv_seq (sv_if (tv_test (ev_op2 ar_slot (ar_val ev_int) o_eq)) (sv_ret (ev_callS (al_cons ar_slot (al_cons (ar_val (ev_lc (iv_rng1 (al_cons ar_slot al_nil)) gv_name tv_yes (ev_op2 (ar_val ev_str) (ar_val (ev_op2 ar_slot (ar_val (ev_op2 (ar_val (ev_op2 ar_slot (ar_val (ev_op2 (ar_val ev_int) ar_slot o_mul)) o_add)) (ar_val ev_int) o_mod)) o_ixA)) o_add) (by decide))) al_nil)))) sv_next)
    (sv_seq (sv_if (tv_test (ev_op2 ar_slot (ar_val ev_int) o_eq)) (sv_ret (ev_callS (al_cons ar_slot (al_cons (ar_val (ev_lc (iv_rng1 (al_cons ar_slot al_nil)) gv_name tv_yes (ev_op2 (ar_val (ev_op2 (ar_val ev_str) (ar_val (ev_op2 ar_slot (ar_val (ev_op2 (ar_val (ev_op2 ar_slot ar_slot o_add)) (ar_val ev_int) o_mod)) o_ixA)) o_add)) (ar_val ev_str) o_add) (by decide))) al_nil)))) sv_next)
    (sv_ret (ev_callS (al_cons ar_slot (al_cons (ar_val (ev_lc (iv_rng1 (al_cons ar_slot al_nil)) gv_name tv_yes (ev_op2 (ar_val (ev_op2 ar_slot (ar_val (ev_op2 ar_slot (ar_val ev_int) o_mod)) o_ixA)) (ar_val (ev_op2 (ar_val (ev_op2 (ar_val ev_int) (ar_val (ev_op2 ar_slot (ar_val ev_int) o_fdiv)) o_add)) (ar_val (ev_op2 ar_slot (ar_val ev_int) o_mod)) o_add)) o_mul) (by decide))) al_nil)))))))))) (by decide) h⟩
structure O11 (P : Program) (w : World) (K : PySem.W.Frag) (mg : Str → Option Value) (base : Heap) : Prop extends O10 P w K mg base where
  h_law_titles : HasFn P w K mg base (L2.CX P w) 3 "_law_titles" ["_law_feed_here", "_law_many"] (spV K f_titles)
abbrev s_value : Stmt := top 17
theorem sc_value : FnScope ["_law_feed_here", "_law_great", "_law_some"] ["_law_feed_here"] (defScope s_value) := ⟨rfl, rfl, rfl, by decide +kernel, rfl, by decide +kernel, by decide +kernel⟩
noncomputable def v_value : VS := (vSeq (vSet 1 (vCall f_take (vCons (vSlot 0) (vCons (vVal (vOp fPow (v2 (vVal (vC (.int (10)))) (vVal (vC (.int (18))))))) vNil))))
    (vSeq (vSet 2 (vOp fLst (vCons (vKeep (vC .non)) (vCons (vKeep (vCall f_take (vCons (vSlot 0) (vCons (vVal (vC (.int (4)))) vNil)))) (vCons (vKeep (vOp fSub (v2 (vVal (vC (.int (0)))) (vVal (vCall f_take (vCons (vSlot 0) (vCons (vVal (vC (.int (30)))) vNil))))))) (vCons (vKeep (vVar 1)) (vCons (vKeep (vOp fSub (v2 (vVal (vC (.int (0)))) (vSlot 1)))) (vCons (vKeep (vC (.bl true))) (vCons (vKeep (vC (.bl false))) vNil)))))))))
    (vRet (vOp fIxA (v2 (vVal (vOp fAdd (v2 (vSlot 2) (vVal (vOp fLst (vCons (vKeep (vC (.str "a"))) (vCons (vKeep (vC (.str "b7"))) (vCons (vKeep (vC (.str "none"))) (vCons (vKeep (vC (.str "truth"))) (vCons (vKeep (vC (.str "zzzzzz"))) (vCons (vKeep (vC (.str "card"))) (vCons (vKeep (vC (.str "care"))) (vCons (vKeep (vC (.str "aa"))) (vCons (vKeep (vC (.str "b"))) vNil)))))))))))))) (vVal (vCall f_take (vCons (vSlot 0) (vCons (vVal (vC (.int (16)))) vNil)))))))))
noncomputable def f_value : FnV := fnOf 1 3 ([1] ++ ([2] ++ [])) v_value
theorem ok_value (D : Def K mg "_law_value" s_value) (T : Tx K mg kA tL tF tM) (O : O11 P w K mg base) : HasFn P w K mg base (L2.CX P w) 2 "_law_value" ["_law_feed_here"] (spV K f_value) := by
  obtain ⟨f, fd, F, hm⟩ := D
  refine ⟨f, fd, F.okX sc_value (fun vs H Q E h => spV_len h) (fun cdv A outer s H vs Q E hr h => ?_), hm, F.kp, F.binds fun _ _ _ _ _ _ us hl => match us, hl with | [_], _ => rfl⟩
  exact ⟨_, (pss_cons (ps_set (i := 1) sc_value.nd rfl (Or.inl rfl) (pe_callW O.h_law_take hr (by rfl) (fun σ => passAt (takes_of rfl rfl rfl rfl) σ) (pa_cons (pv 0) (pa_cons (pe_op op_pow pe_int pe_int) pa_nil))))
    (pss_cons (ps_set (i := 2) sc_value.nd rfl (Or.inl rfl) (pe_lst (pa_cons pe_non (pa_cons (pe_callW O.h_law_take hr (by rfl) (fun σ => passAt (takes_of rfl rfl rfl rfl) σ) (pa_cons (pv 0) (pa_cons pe_int pa_nil))) (pa_cons (pe_op op_sub pe_int (pe_callW O.h_law_take hr (by rfl) (fun σ => passAt (takes_of rfl rfl rfl rfl) σ) (pa_cons (pv 0) (pa_cons pe_int pa_nil)))) (pa_cons (pv 1) (pa_cons (pe_op op_sub pe_int (pv 1)) (pa_cons pe_bl (pa_cons pe_bl pa_nil)))))))))
    (pss_one (ps_ret (pe_ix (ix_any hr.units) (pe_op u_add (pv 2) (pe_lst (pa_cons pe_str (pa_cons pe_str (pa_cons pe_str (pa_cons pe_str (pa_cons pe_str (pa_cons pe_str (pa_cons pe_str (pa_cons pe_str (pa_cons pe_str pa_nil))))))))))) (pe_callW O.h_law_take hr (by rfl) (fun σ => passAt (takes_of rfl rfl rfl rfl) σ) (pa_cons (pv 0) (pa_cons pe_int pa_nil))) (fun _ _ => rfl)))))), fn_body (N := ["_law_feed_here", "_law_great", "_law_some"]) (sv_seq (sv_set (ev_callS (al_cons ar_slot (al_cons (ar_val (ev_op2 (ar_val ev_int) (ar_val ev_int) o_pow)) al_nil))))
    (sv_seq (sv_set (ev_lst (al_cons (ar_keep ev_non) (al_cons (ar_keep (ev_callS (al_cons ar_slot (al_cons (ar_val ev_int) al_nil)))) (al_cons (ar_keep (ev_op2 (ar_val ev_int) (ar_val (ev_callS (al_cons ar_slot (al_cons (ar_val ev_int) al_nil)))) o_sub)) (al_cons (ar_keep ev_var) (al_cons (ar_keep (ev_op2 (ar_val ev_int) ar_slot o_sub)) (al_cons (ar_keep ev_bl) (al_cons (ar_keep ev_bl) al_nil)))))))))
    (sv_ret (ev_op2 (ar_val (ev_op2 ar_slot (ar_val (ev_lst (al_cons (ar_keep ev_str) (al_cons (ar_keep ev_str) (al_cons (ar_keep ev_str) (al_cons (ar_keep ev_str) (al_cons (ar_keep ev_str) (al_cons (ar_keep ev_str) (al_cons (ar_keep ev_str) (al_cons (ar_keep ev_str) (al_cons (ar_keep ev_str) al_nil))))))))))) o_add)) (ar_val (ev_callS (al_cons ar_slot (al_cons (ar_val ev_int) al_nil)))) o_ixA)))) (by decide) h⟩
structure O12 (P : Program) (w : World) (K : PySem.W.Frag) (mg : Str → Option Value) (base : Heap) : Prop extends O11 P w K mg base where
  h_law_value : HasFn P w K mg base (L2.CX P w) 2 "_law_value" ["_law_feed_here"] (spV K f_value)
abbrev s_same : Stmt := top 18
theorem sc_same : FnScope ["_law_one", "_law_other"] ["_law_one", "_law_other"] (defScope s_same) := ⟨rfl, rfl, rfl, by decide +kernel, rfl, by decide +kernel, by decide +kernel⟩
noncomputable def v_same : VS := (vRet (vOp fEq (v2 (vVal (vOp fRepr (vCons (vSlot 0) vNil))) (vVal (vOp fRepr (vCons (vSlot 1) vNil))))))
noncomputable def f_same : FnV := fnOf 2 2 [] v_same
theorem ok_same (D : Def K mg "_law_same" s_same) (T : Tx K mg kA tL tF tM) (O : O12 P w K mg base) : HasG P w K mg base (L2.CX P w) 1 "_law_same" ["_law_one", "_law_other"] (spV K f_same) := by
  obtain ⟨f, fd, F, hm⟩ := D
  refine ⟨f, fd, F.okGX sc_same (fun vs H Q E h => spV_len h) (fun cdv A outer s H vs Q E hgs hr h => ?_), hm, F.kp, F.binds fun _ _ _ _ _ _ us hl => match us, hl with | [_, _], _ => rfl⟩
  exact ⟨_, (pss_one (ps_ret (pe_cmpR (u_eq hr.units) (pe_callB (call_reprD hgs hr.units) (by rfl) T.n_repr (by decide +kernel) (pa_cons (pv 0) pa_nil)) (pe_callB (call_reprD hgs hr.units) (by rfl) T.n_repr (by decide +kernel) (pa_cons (pv 1) pa_nil)) (nomark _)))), fn_body (N := ["_law_one", "_law_other"]) (sv_ret (ev_op2 (ar_val (ev_cb (al_cons ar_slot al_nil) o_repr)) (ar_val (ev_cb (al_cons ar_slot al_nil) o_repr)) o_eq)) (by decide) h⟩
structure O13 (P : Program) (w : World) (K : PySem.W.Frag) (mg : Str → Option Value) (base : Heap) : Prop extends O12 P w K mg base where
  h_law_same : HasG P w K mg base (L2.CX P w) 1 "_law_same" ["_law_one", "_law_other"] (spV K f_same)
abbrev s_named : Stmt := top 19
theorem sc_named : FnScope ["_law_value_here", "_law_signs", "_law_sign"] ["_law_value_here"] (defScope s_named) := ⟨rfl, rfl, rfl, by decide +kernel, rfl, by decide +kernel, by decide +kernel⟩
noncomputable def v_named : VS := (vSeq (vSet 1 (vC (.str "abcdefghijklmnopqrstuvwxyz0123456789")))
    (vSeq (vIfS (vOrT (vNotT (vB (vOp fIsi (vCons (vSlot 0) (vCons (vVal (vC (.ty "str"))) vNil))))) (vOrT (vNotT (vB (vChain fLe fLe (vVal (vC (.int (1)))) (vVal (vOp fLen (vCons (vSlot 0) vNil))) (vVal (vC (.int (6))))))) (vB (vOp (fIn true) (v2 (vVal (vOp fIxA (v2 (vSlot 0) (vVal (vC (.int (0))))))) (vVal (vOp fSlB (v2 (vSlot 1) (vVal (vC (.int (26)))))))))))) (vRet (vC (.bl false))) vNext)
    (vRet (vOp fEq (v2 (vVal (vLc [2] (vItems (vSlot 0)) (gvName 2) (vB (vOp (fIn true) (v2 (vSlot 2) (vSlot 1)))) (vC (.int (1))))) (vVal (vOp fLst vNil)))))))
noncomputable def f_named : FnV := fnOf 1 3 ([1] ++ (([] ++ []) ++ [])) v_named
theorem ok_named (D : Def K mg "_law_named" s_named) (T : Tx K mg kA tL tF tM) (O : O13 P w K mg base) : HasFn P w K mg base (L2.CX P w) 1 "_law_named" ["_law_value_here"] (spV K f_named) := by
  obtain ⟨f, fd, F, hm⟩ := D
  refine ⟨f, fd, F.okX sc_named (fun vs H Q E h => spV_len h) (fun cdv A outer s H vs Q E hr h => ?_), hm, F.kp, F.binds fun _ _ _ _ _ _ us hl => match us, hl with | [_], _ => rfl⟩
  exact ⟨_, (pss_cons (ps_set (i := 1) sc_named.nd rfl (Or.inr rfl) pe_str)
    (pss_cons (ps_if (PW.pt (pw_or (pt_not (pt_val (pe_callB call_isi (by rfl) T.n_isinstance (by decide +kernel) (pa_cons (pv 0) (pa_cons (pe_bltn (v := .ty "str") (by rfl) T.n_str (by decide +kernel) rfl) pa_nil))))) (pw_or (pt_not (pt_chain op_le op_le pe_int (pe_callB u_len (by rfl) T.n_len (by decide +kernel) (pa_cons (pv 0) pa_nil)) pe_int)) (pw_or1 (pt_cmpR u_notIn (pe_ix (ix_any hr.units) (pv 0) pe_int (fun _ _ => rfl)) (pe_slice u_sl (pv 1) po_none (po_some pe_int)) (by rfl)))))) (pss_one (ps_ret pe_bl)) pss_nil)
    (pss_one (ps_ret (pe_cmpR (u_eq hr.units) (pe_lc (own := [("_law_sign", 2)]) (g := gName 2) (by rfl) sc_named.nd (pi_seq (pv 0)) (blkOk_by (own := [("_law_sign", 2)]) (N := ["_law_value_here", "_law_signs", "_law_sign"]) (sc := defScope s_named) (by decide +kernel)) (fun _ _ _ _ _ => (pg_name (i := 2) sc_named.nd rfl (Or.inl rfl))) (fun _ _ _ _ _ => (pts_one (pt_cmpR u_notIn (pv 2) (pv 1) (by rfl)))) (fun _ _ _ _ _ => pe_int)) (pe_lst pa_nil) (nomark _)))))), fn_body (N := ["_law_value_here", "_law_signs", "_law_sign"]) (sv_seq (sv_set ev_str)
    (sv_seq (sv_if (tv_or (tv_not (tv_val (ev_cb (al_cons ar_slot (al_cons (ar_val ev_ty) al_nil)) o_isi))) (tv_or (tv_not (tv_test (ev_chain (ar_val ev_int) (ar_val (ev_cb (al_cons ar_slot al_nil) o_len)) (ar_val ev_int) o_ib o_ib))) (tv_test (ev_op2 (ar_val (ev_op2 ar_slot (ar_val ev_int) o_ixA)) (ar_val (ev_slB ar_slot (ar_val ev_int))) o_in)))) (sv_ret ev_bl) sv_next)
    (sv_ret (ev_op2 (ar_val (ev_lc (iv_seq ar_slot) gv_name (tv_test (ev_op2 ar_slot ar_slot o_in)) ev_int (by decide))) (ar_val (ev_lst al_nil)) o_eq)))) (by decide) h⟩
structure O14 (P : Program) (w : World) (K : PySem.W.Frag) (mg : Str → Option Value) (base : Heap) : Prop extends O13 P w K mg base where
  h_law_named : HasFn P w K mg base (L2.CX P w) 1 "_law_named" ["_law_value_here"] (spV K f_named)
abbrev s_thing : Stmt := top 20
theorem sc_thing : FnScope ["_law_feed_here", "_law_title", "_law_at", "_law_sign", "_law_some", "_law_deep", "_law_turn", "_law_more"] ["_law_feed_here", "_law_title"] (defScope s_thing) := ⟨rfl, rfl, rfl, by decide +kernel, rfl, by decide +kernel, by decide +kernel⟩
noncomputable def v_thing : VS := (vSeq (vSet 2 (vCall f_take (vCons (vSlot 0) (vCons (vVal (vOp fAdd (v2 (vVal (vOp fLen (vCons (vSlot 1) vNil))) (vVal (vC (.int (1))))))) vNil))))
    (vSeq (vSet 3 (vOp fIxA (v2 (vVal (vC (.str "aZ0_ .'$-z9"))) (vVal (vCall f_take (vCons (vSlot 0) (vCons (vVal (vC (.int (11)))) vNil)))))))
    (vSeq (vSet 4 (vOp fLst (vCons (vKeep (vVar 1)) (vCons (vKeep (vOp fAdd (v2 (vVal (vOp fAdd (v2 (vVal (vOp fSlB (v2 (vSlot 1) (vSlot 2)))) (vSlot 3)))) (vVal (vOp fSlA (v2 (vSlot 1) (vSlot 2))))))) (vCons (vKeep (vOp fAdd (v2 (vVal (vOp fAdd (v2 (vVal (vOp fSlB (v2 (vSlot 1) (vSlot 2)))) (vSlot 3)))) (vVal (vOp fSlA (v2 (vSlot 1) (vVal (vOp fAdd (v2 (vSlot 2) (vVal (vC (.int (1))))))))))))) (vCons (vKeep (vOp fSlA (v2 (vSlot 1) (vSlot 2)))) (vCons (vKeep (vC (.str ""))) (vCons (vKeep (vOp fAdd (v2 (vSlot 1) (vVal (vC (.str "abcdef")))))) vNil))))))))
    (vSeq (vSet 5 (vVar 1))
    (vSeq (vFor ([6] ++ [5]) (vOpI rng1 (vCons (vVal (vC (.int (8)))) vNil)) (gvName 6) (vSet 5 (vOp fTup (vCons (vKeep (vVar 5)) vNil))))
    (vSeq (vSet 7 (vOp fLst (vCons (vKeep (vOp fTup (vCons (vKeep (vVar 1)) vNil))) (vCons (vKeep (vVar 5)) (vCons (vKeep (vC (.int (0)))) (vCons (vKeep (vC (.int (1)))) (vCons (vKeep (vC (.bl true))) (vCons (vKeep (vC (.bl false))) (vCons (vKeep (vC .non)) (vCons (vKeep (vOp fPow (v2 (vVal (vC (.int (10)))) (vVal (vC (.int (20))))))) (vCons (vKeep (vOp fNeg (vCons (vVal (vC (.int (7)))) vNil))) (vCons (vKeep (vOp fTup (vCons (vKeep (vOp fTup (vCons (vKeep (vVar 1)) (vCons (vKeep (vC (.int (1)))) vNil)))) (vCons (vKeep (vC .non)) vNil)))) (vCons (vKeep (vC (.str "a.1"))) (vCons (vKeep (vC (.str "a b"))) (vCons (vKeep (vOp fUpper (vCons (vSlot 1) vNil))) vNil)))))))))))))))
    (vRet (vOp fIxA (v2 (vVal (vOp fAdd (v2 (vSlot 4) (vSlot 7)))) (vVal (vCall f_take (vCons (vSlot 0) (vCons (vVal (vC (.int (19)))) vNil)))))))))))))
noncomputable def f_thing : FnV := fnOf 2 8 ([2] ++ ([3] ++ ([4] ++ ([5] ++ (([6] ++ [5]) ++ ([7] ++ [])))))) v_thing
theorem ok_thing (D : Def K mg "_law_thing" s_thing) (T : Tx K mg kA tL tF tM) (O : O14 P w K mg base) : HasFn P w K mg base (L2.CX P w) 2 "_law_thing" ["_law_feed_here", "_law_title"] (spV K f_thing) := by
  obtain ⟨f, fd, F, hm⟩ := D
  refine ⟨f, fd, F.okX sc_thing (fun vs H Q E h => spV_len h) (fun cdv A outer s H vs Q E hr h => ?_), hm, F.kp, F.binds fun _ _ _ _ _ _ us hl => match us, hl with | [_, _], _ => rfl⟩
  exact ⟨_, (pss_cons (ps_set (i := 2) sc_thing.nd rfl (Or.inl rfl) (pe_callW O.h_law_take hr (by rfl) (fun σ => passAt (takes_of rfl rfl rfl rfl) σ) (pa_cons (pv 0) (pa_cons (pe_op u_add (pe_callB u_len (by rfl) T.n_len (by decide +kernel) (pa_cons (pv 1) pa_nil)) pe_int) pa_nil))))
    (pss_cons (ps_set (i := 3) sc_thing.nd rfl (Or.inl rfl) (pe_ix (ix_any hr.units) pe_str (pe_callW O.h_law_take hr (by rfl) (fun σ => passAt (takes_of rfl rfl rfl rfl) σ) (pa_cons (pv 0) (pa_cons pe_int pa_nil))) (fun _ _ => rfl)))
    (pss_cons (ps_set (i := 4) sc_thing.nd rfl (Or.inl rfl) (pe_lst (pa_cons (pv 1) (pa_cons (pe_op u_add (pe_op u_add (pe_slice u_sl (pv 1) po_none (po_some (pv 2))) (pv 3)) (pe_slice u_sl (pv 1) (po_some (pv 2)) po_none)) (pa_cons (pe_op u_add (pe_op u_add (pe_slice u_sl (pv 1) po_none (po_some (pv 2))) (pv 3)) (pe_slice u_sl (pv 1) (po_some (pe_op u_add (pv 2) pe_int)) po_none)) (pa_cons (pe_slice u_sl (pv 1) (po_some (pv 2)) po_none) (pa_cons pe_str (pa_cons (pe_op u_add (pv 1) pe_str) pa_nil))))))))
    (pss_cons (ps_set (i := 5) sc_thing.nd rfl (Or.inl rfl) (pv 1))
    (pss_cons (ps_for (passes_of rfl) rfl (pi_range1 (by rfl) T.n_range (pa_cons pe_int pa_nil)) (pg_name (i := 6) sc_thing.nd rfl (Or.inl rfl)) (pss_one (ps_set (i := 5) sc_thing.nd rfl (Or.inl rfl) (pe_tup (pa_cons (pv 5) pa_nil)))))
    (pss_cons (ps_set (i := 7) sc_thing.nd rfl (Or.inl rfl) (pe_lst (pa_cons (pe_tup (pa_cons (pv 1) pa_nil)) (pa_cons (pv 5) (pa_cons pe_int (pa_cons pe_int (pa_cons pe_bl (pa_cons pe_bl (pa_cons pe_non (pa_cons (pe_op op_pow pe_int pe_int) (pa_cons (pe_un un_neg pe_int) (pa_cons (pe_tup (pa_cons (pe_tup (pa_cons (pv 1) (pa_cons pe_int pa_nil))) (pa_cons pe_non pa_nil))) (pa_cons pe_str (pa_cons pe_str (pa_cons (pe_upper (pv 1)) pa_nil)))))))))))))))
    (pss_one (ps_ret (pe_ix (ix_any hr.units) (pe_op u_add (pv 4) (pv 7)) (pe_callW O.h_law_take hr (by rfl) (fun σ => passAt (takes_of rfl rfl rfl rfl) σ) (pa_cons (pv 0) (pa_cons pe_int pa_nil))) (fun _ _ => rfl)))))))))), fn_body (N := ["_law_feed_here", "_law_title", "_law_at", "_law_sign", "_law_some", "_law_deep", "_law_turn", "_law_more"]) (sv_seq (sv_set (ev_callS (al_cons ar_slot (al_cons (ar_val (ev_op2 (ar_val (ev_cb (al_cons ar_slot al_nil) o_len)) (ar_val ev_int) o_add)) al_nil))))
    (sv_seq (sv_set (ev_op2 (ar_val ev_str) (ar_val (ev_callS (al_cons ar_slot (al_cons (ar_val ev_int) al_nil)))) o_ixA))
    (sv_seq (sv_set (ev_lst (al_cons (ar_keep ev_var) (al_cons (ar_keep (ev_op2 (ar_val (ev_op2 (ar_val (ev_slB ar_slot ar_slot)) ar_slot o_add)) (ar_val (ev_slA ar_slot ar_slot)) o_add)) (al_cons (ar_keep (ev_op2 (ar_val (ev_op2 (ar_val (ev_slB ar_slot ar_slot)) ar_slot o_add)) (ar_val (ev_slA ar_slot (ar_val (ev_op2 ar_slot (ar_val ev_int) o_add)))) o_add)) (al_cons (ar_keep (ev_slA ar_slot ar_slot)) (al_cons (ar_keep ev_str) (al_cons (ar_keep (ev_op2 ar_slot (ar_val ev_str) o_add)) al_nil))))))))
    (sv_seq (sv_set ev_var)
    (sv_seq (sv_for (iv_rng1 (al_cons (ar_val ev_int) al_nil)) gv_name (sv_set (ev_tup (al_cons (ar_keep ev_var) al_nil))))
    (sv_seq (sv_set (ev_lst (al_cons (ar_keep (ev_tup (al_cons (ar_keep ev_var) al_nil))) (al_cons (ar_keep ev_var) (al_cons (ar_keep ev_int) (al_cons (ar_keep ev_int) (al_cons (ar_keep ev_bl) (al_cons (ar_keep ev_bl) (al_cons (ar_keep ev_non) (al_cons (ar_keep (ev_op2 (ar_val ev_int) (ar_val ev_int) o_pow)) (al_cons (ar_keep (ev_op1 (ar_val ev_int) o_neg)) (al_cons (ar_keep (ev_tup (al_cons (ar_keep (ev_tup (al_cons (ar_keep ev_var) (al_cons (ar_keep ev_int) al_nil)))) (al_cons (ar_keep ev_non) al_nil)))) (al_cons (ar_keep ev_str) (al_cons (ar_keep ev_str) (al_cons (ar_keep (ev_upper ar_slot)) al_nil)))))))))))))))
    (sv_ret (ev_op2 (ar_val (ev_op2 ar_slot ar_slot o_add)) (ar_val (ev_callS (al_cons ar_slot (al_cons (ar_val ev_int) al_nil)))) o_ixA)))))))) (by decide) h⟩
structure O15 (P : Program) (w : World) (K : PySem.W.Frag) (mg : Str → Option Value) (base : Heap) : Prop extends O14 P w K mg base where
  h_law_thing : HasFn P w K mg base (L2.CX P w) 2 "_law_thing" ["_law_feed_here", "_law_title"] (spV K f_thing)
abbrev s_lrank : Stmt := top 21
theorem sc_lrank : FnScope ["_law_value_here"] ["_law_value_here"] (defScope s_lrank) := ⟨rfl, rfl, rfl, by decide +kernel, rfl, by decide +kernel, by decide +kernel⟩
noncomputable def v_lrank : VS := (vSeq (vIfS (vB (vOp (fIsN false) (v2 (vSlot 0) (vVal (vC .non))))) (vRet (vOp fTup (vCons (vKeep (vC (.int (0)))) (vCons (vKeep (vC (.int (0)))) (vCons (vKeep (vC (.str ""))) vNil))))) vNext)
    (vSeq (vIfS (vB (vOp fIsi (vCons (vSlot 0) (vCons (vVal (vC (.ty "bool"))) vNil)))) (vRet (vOp fTup (vCons (vKeep (vC (.int (3)))) (vCons (vKeep (vOp fInt (vCons (vSlot 0) vNil))) (vCons (vKeep (vC (.str ""))) vNil))))) vNext)
    (vRet (vIf (vB (vOp fIsi (vCons (vSlot 0) (vCons (vVal (vC (.ty "str"))) vNil)))) (vOp fTup (vCons (vKeep (vC (.int (2)))) (vCons (vKeep (vC (.int (0)))) (vCons (vKeep (vVar 0)) vNil)))) (vOp fTup (vCons (vKeep (vC (.int (1)))) (vCons (vKeep (vVar 0)) (vCons (vKeep (vC (.str ""))) vNil))))))))
noncomputable def f_lrank : FnV := fnOf 1 1 (([] ++ []) ++ (([] ++ []) ++ [])) v_lrank
theorem ok_lrank (D : Def K mg "_law_rank" s_lrank) (T : Tx K mg kA tL tF tM) (O : O15 P w K mg base) : HasFn P w K mg base (L2.CX P w) 1 "_law_rank" ["_law_value_here"] (spV K f_lrank) := by
  obtain ⟨f, fd, F, hm⟩ := D
  refine ⟨f, fd, F.okX sc_lrank (fun vs H Q E h => spV_len h) (fun cdv A outer s H vs Q E hr h => ?_), hm, F.kp, F.binds fun _ _ _ _ _ _ us hl => match us, hl with | [_], _ => rfl⟩
  exact ⟨_, (pss_cons (ps_if (pt_cmpR op_isN (pv 0) pe_non (nomark _)) (pss_one (ps_ret (pe_tup (pa_cons pe_int (pa_cons pe_int (pa_cons pe_str pa_nil)))))) pss_nil)
    (pss_cons (ps_if (pt_val (pe_callB call_isi (by rfl) T.n_isinstance (by decide +kernel) (pa_cons (pv 0) (pa_cons (pe_bltn (v := .ty "bool") (by rfl) T.n_bool (by decide +kernel) rfl) pa_nil)))) (pss_one (ps_ret (pe_tup (pa_cons pe_int (pa_cons (pe_callTy call_int1 (by rfl) T.n_int (by decide +kernel) (pa_cons (pv 0) pa_nil)) (pa_cons pe_str pa_nil)))))) pss_nil)
    (pss_one (ps_ret (pe_ifExp (pt_val (pe_callB call_isi (by rfl) T.n_isinstance (by decide +kernel) (pa_cons (pv 0) (pa_cons (pe_bltn (v := .ty "str") (by rfl) T.n_str (by decide +kernel) rfl) pa_nil)))) (pe_tup (pa_cons pe_int (pa_cons pe_int (pa_cons (pv 0) pa_nil)))) (pe_tup (pa_cons pe_int (pa_cons (pv 0) (pa_cons pe_str pa_nil))))))))), fn_body (N := ["_law_value_here"]) (sv_seq (sv_if (tv_test (ev_op2 ar_slot (ar_val ev_non) o_isN)) (sv_ret (ev_tup (al_cons (ar_keep ev_int) (al_cons (ar_keep ev_int) (al_cons (ar_keep ev_str) al_nil))))) sv_next)
    (sv_seq (sv_if (tv_val (ev_cb (al_cons ar_slot (al_cons (ar_val ev_ty) al_nil)) o_isi)) (sv_ret (ev_tup (al_cons (ar_keep ev_int) (al_cons (ar_keep (ev_cb (al_cons ar_slot al_nil) o_int)) (al_cons (ar_keep ev_str) al_nil))))) sv_next)
    (sv_ret (ev_if (tv_val (ev_cb (al_cons ar_slot (al_cons (ar_val ev_ty) al_nil)) o_isi)) (ev_tup (al_cons (ar_keep ev_int) (al_cons (ar_keep ev_int) (al_cons (ar_keep ev_var) al_nil)))) (ev_tup (al_cons (ar_keep ev_int) (al_cons (ar_keep ev_var) (al_cons (ar_keep ev_str) al_nil)))))))) (by decide) h⟩
structure O16 (P : Program) (w : World) (K : PySem.W.Frag) (mg : Str → Option Value) (base : Heap) : Prop extends O15 P w K mg base where
  h_law_rank : HasFn P w K mg base (L2.CX P w) 1 "_law_rank" ["_law_value_here"] (spV K f_lrank)
abbrev s_text : Stmt := top 22
theorem sc_text : FnScope ["_law_value_here"] ["_law_value_here"] (defScope s_text) := ⟨rfl, rfl, rfl, by decide +kernel, rfl, by decide +kernel, by decide +kernel⟩
noncomputable def v_text : VS := (vSeq (vIfS (vOrT (vB (vOp (fIsN false) (v2 (vSlot 0) (vVal (vC .non))))) (vB (vOp fIsi (vCons (vSlot 0) (vCons (vVal (vC (.ty "bool"))) vNil))))) (vRet (vOp fIxA (v2 (vVal (vOp fLst (vCons (vKeep (vC (.str "none"))) (vCons (vKeep (vC (.str "false"))) (vCons (vKeep (vC (.str "true"))) vNil))))) (vVal (vIf (vB (vOp (fIsN false) (v2 (vSlot 0) (vVal (vC .non))))) (vC (.int (0))) (vOp fAdd (v2 (vVal (vC (.int (1)))) (vVal (vOp fInt (vCons (vSlot 0) vNil)))))))))) vNext)
    (vRet (vIf (vB (vOp fIsi (vCons (vSlot 0) (vCons (vVal (vC (.ty "str"))) vNil)))) (vOp fAdd (v2 (vVal (vC (.str "'"))) (vSlot 0))) (vOp fStr (vCons (vSlot 0) vNil)))))
noncomputable def f_text : FnV := fnOf 1 1 (([] ++ []) ++ []) v_text
theorem ok_text (D : Def K mg "_law_text" s_text) (T : Tx K mg kA tL tF tM) (O : O16 P w K mg base) : HasFn P w K mg base (L2.CX P w) 1 "_law_text" ["_law_value_here"] (spV K f_text) := by
  obtain ⟨f, fd, F, hm⟩ := D
  refine ⟨f, fd, F.okX sc_text (fun vs H Q E h => spV_len h) (fun cdv A outer s H vs Q E hr h => ?_), hm, F.kp, F.binds fun _ _ _ _ _ _ us hl => match us, hl with | [_], _ => rfl⟩
  exact ⟨_, (pss_cons (ps_if (PW.pt (pw_or (pt_cmpR op_isN (pv 0) pe_non (nomark _)) (pw_or1 (pt_val (pe_callB call_isi (by rfl) T.n_isinstance (by decide +kernel) (pa_cons (pv 0) (pa_cons (pe_bltn (v := .ty "bool") (by rfl) T.n_bool (by decide +kernel) rfl) pa_nil))))))) (pss_one (ps_ret (pe_ix (ix_any hr.units) (pe_lst (pa_cons pe_str (pa_cons pe_str (pa_cons pe_str pa_nil)))) (pe_ifExp (pt_cmpR op_isN (pv 0) pe_non (nomark _)) pe_int (pe_op u_add pe_int (pe_callTy call_int1 (by rfl) T.n_int (by decide +kernel) (pa_cons (pv 0) pa_nil)))) (fun _ _ => rfl)))) pss_nil)
    (pss_one (ps_ret (pe_ifExp (pt_val (pe_callB call_isi (by rfl) T.n_isinstance (by decide +kernel) (pa_cons (pv 0) (pa_cons (pe_bltn (v := .ty "str") (by rfl) T.n_str (by decide +kernel) rfl) pa_nil)))) (pe_op u_add pe_str (pv 0)) (pe_callTy call_str_int (by rfl) T.n_str (by decide +kernel) (pa_cons (pv 0) pa_nil)))))), fn_body (N := ["_law_value_here"]) (sv_seq (sv_if (tv_or (tv_test (ev_op2 ar_slot (ar_val ev_non) o_isN)) (tv_val (ev_cb (al_cons ar_slot (al_cons (ar_val ev_ty) al_nil)) o_isi))) (sv_ret (ev_op2 (ar_val (ev_lst (al_cons (ar_keep ev_str) (al_cons (ar_keep ev_str) (al_cons (ar_keep ev_str) al_nil))))) (ar_val (ev_if (tv_test (ev_op2 ar_slot (ar_val ev_non) o_isN)) ev_int (ev_op2 (ar_val ev_int) (ar_val (ev_cb (al_cons ar_slot al_nil) o_int)) o_add))) o_ixA)) sv_next)
    (sv_ret (ev_if (tv_val (ev_cb (al_cons ar_slot (al_cons (ar_val ev_ty) al_nil)) o_isi)) (ev_op2 (ar_val ev_str) ar_slot o_add) (ev_cb (al_cons ar_slot al_nil) o_str)))) (by decide) h⟩
structure O17 (P : Program) (w : World) (K : PySem.W.Frag) (mg : Str → Option Value) (base : Heap) : Prop extends O16 P w K mg base where
  h_law_text : HasFn P w K mg base (L2.CX P w) 1 "_law_text" ["_law_value_here"] (spV K f_text)
abbrev s_law : Stmt := top 23
theorem sc_law : FnScope ["_law_script", "_law_k", "_law_feed_here", "_law_turn", "_law_thing_here", "_law_plain", "_law_some", "_law_due", "_law_value_here", "_law_given", "_law_one", "_law_other", "_law_level", "_law_at"] ["_law_script"] (defScope s_law) := ⟨rfl, rfl, rfl, by decide +kernel, rfl, by decide +kernel, by decide +kernel⟩
noncomputable def v_law : VS := (vSeq (vFor ([1] ++ ([2] ++ (([3] ++ ([4] ++ ([5] ++ ([] ++ [])))) ++ ([6] ++ ([7] ++ (([8] ++ ([] ++ [])) ++ ([7] ++ ([9] ++ (([] ++ []) ++ ([10] ++ (([] ++ []) ++ ([] ++ [])))))))))))) (vOpI rng1 (vCons (vVal (vOp fMax2 (vCons (vVal (vC (.int (1)))) (vCons (vVal (vOp fMin2 (vCons (vVal (vC (.int (3)))) (vCons (vVal (vOp fLen (vCons (vSlot 0) vNil))) vNil)))) vNil)))) vNil)) (gvName 1) (vSeq (vSet 2 (vCall f_feed (vCons (vSlot 0) (vCons (vSlot 1) vNil))))
    (vSeq (vFor ([3] ++ ([4] ++ ([5] ++ ([] ++ [])))) (vOpI rng1 (vCons (vVal (vC (.int (20)))) vNil)) (gvName 3) (vSeq (vSet 4 (vCall f_thing (vCons (vSlot 2) (vCons (vVal (vOp fIxA (v2 (vVal (vCall f_titles (vCons (vSlot 2) (vCons (vVal (vC (.int (3)))) vNil)))) (vVal (vCall f_take (vCons (vSlot 2) (vCons (vVal (vC (.int (3)))) vNil))))))) vNil))))
    (vSeq (vSet 5 (vOr (vOp (fIsN false) (v2 (vSlot 4) (vVal (vC .non)))) (vOp fIsi (vCons (vSlot 4) (vCons (vVal (vC (.ty "int"))) vNil)))))
    (vIfS (vNotT (vB (vCall f_same (vCons (vVal (vOp fLst (vCons (vKeep (vCall f_isname (vCons (vSlot 4) vNil))) (vCons (vKeep (vCall f_isvalue (vCons (vSlot 4) vNil))) vNil)))) (vCons (vVal (vOp fLst (vCons (vKeep (vCall f_named (vCons (vSlot 4) vNil))) (vCons (vKeep (vOr (vVar 5) (vCall f_named (vCons (vSlot 4) vNil)))) vNil)))) vNil))))) (vRet (vC (.bl false))) vNext))))
    (vSeq (vSet 6 (vLc [3] (vOpI rng1 (vCons (vVal (vCall f_take (vCons (vSlot 2) (vCons (vVal (vC (.int (12)))) vNil)))) vNil)) (gvName 3) vTrue (vCall f_value (vCons (vSlot 2) vNil))))
    (vSeq (vSet 7 (vOp fLst vNil))
    (vSeq (vFor ([8] ++ ([] ++ [])) (vItems (vSlot 6)) (gvName 8) (vIfS (vB (vOp fEq (v2 (vVal (vLc [11] (vItems (vSlot 7)) (gvName 11) (vB (vCall f_same (vCons (vSlot 11) (vCons (vSlot 8) vNil)))) (vC (.int (1))))) (vVal (vOp fLst vNil))))) (vExpr (vMeth 7 mAppend (vCons (vKeep (vVar 8)) vNil))) vNext))
    (vSeq (vSet 7 (vLc [12, 13] (vItems (vVal (vOp fSorted (vCons (vVal (vLc [13, 8] (vOpI fEnum (vCons (vKeep (vVar 7)) vNil)) (gvTup 2 (gvCons (gvName 13) (gvCons (gvName 8) gvNil))) vTrue (vOp fTup (vCons (vKeep (vCall f_lrank (vCons (vSlot 8) vNil))) (vCons (vKeep (vVar 13)) vNil))))) vNil)))) (gvTup 2 (gvCons (gvName 12) (gvCons (gvName 13) gvNil))) vTrue (vOp fIxA (v2 (vSlot 7) (vSlot 13)))))
    (vSeq (vSet 9 (vIf (vB (vOp fEq (v2 (vVal (vCall f_take (vCons (vSlot 2) (vCons (vVal (vC (.int (2)))) vNil)))) (vVal (vC (.int (0))))))) (vOp fTuple (vCons (vSlot 6) vNil)) (vOp fList (vCons (vSlot 6) vNil))))
    (vSeq (vIfS (vNotT (vB (vCall f_same (vCons (vVal (vCall f_inorder (vCons (vSlot 9) vNil))) (vCons (vSlot 7) vNil))))) (vRet (vC (.bl false))) vNext)
    (vFor ([10] ++ (([] ++ []) ++ ([] ++ []))) (vItems (vSlot 6)) (gvName 10) (vSeq (vIfS (vNotT (vB (vCall f_same (vCons (vVal (vCall f_show (vCons (vSlot 10) vNil))) (vCons (vVal (vCall f_text (vCons (vSlot 10) vNil))) vNil))))) (vRet (vC (.bl false))) vNext)
    (vIfS (vNotT (vB (vCall f_same (vCons (vVal (vLc [11] (vItems (vSlot 6)) (gvName 11) vTrue (vCall f_issame (vCons (vSlot 10) (vCons (vSlot 11) vNil))))) (vCons (vVal (vLc [11] (vItems (vSlot 6)) (gvName 11) vTrue (vCall f_same (vCons (vSlot 10) (vCons (vSlot 11) vNil))))) vNil))))) (vRet (vC (.bl false))) vNext))))))))))))
    (vRet (vC (.bl true))))
noncomputable def f_law : FnV := fnOf 1 14 (([1] ++ ([2] ++ (([3] ++ ([4] ++ ([5] ++ ([] ++ [])))) ++ ([6] ++ ([7] ++ (([8] ++ ([] ++ [])) ++ ([7] ++ ([9] ++ (([] ++ []) ++ ([10] ++ (([] ++ []) ++ ([] ++ [])))))))))))) ++ []) v_law
noncomputable def spLaw (K : PySem.W.Frag) : Sp := fun vs H Q _ => spV K f_law vs H Q E0
theorem ok_law {f : Addr} {fd : FuncData} (F : Fun K "law" "law" s_law f fd) (T : Tx K mg kA tL tF tM) (O : O17 P w K mg base) : FnG P w K mg base CX0 4 f fd ["_law_script"] (spLaw K) := by
  refine F.okG sc_law (fun vs H Q E h => spV_len h) (fun cdv A outer s H vs Q E hgs hr h => ?_)
  exact ⟨_, (pss_cons (ps_for PassesOwn.never rfl (pi_range1 (by rfl) T.n_range (pa_cons (pe_callB (call_max2 rfl) (by rfl) T.n_max (by decide +kernel) (pa_cons pe_int (pa_cons (pe_callB (call_min2 rfl) (by rfl) T.n_min (by decide +kernel) (pa_cons pe_int (pa_cons (pe_callB u_len (by rfl) T.n_len (by decide +kernel) (pa_cons (pv 0) pa_nil)) pa_nil))) pa_nil))) pa_nil)) (pg_name (i := 1) sc_law.nd rfl (Or.inl rfl)) (pss_cons (ps_set (i := 2) sc_law.nd rfl (Or.inr rfl) (pe_callW O.h_law_feed hr (by rfl) passS (pa_cons (pv 0) (pa_cons (pv 1) pa_nil))))
    (pss_cons (ps_for PassesOwn.never rfl (pi_range1 (by rfl) T.n_range (pa_cons pe_int pa_nil)) (pg_name (i := 3) sc_law.nd rfl (Or.inl rfl)) (pss_cons (ps_set (i := 4) sc_law.nd rfl (Or.inl rfl) (pe_callW O.h_law_thing hr (by rfl) passS (pa_cons (pv 2) (pa_cons (pe_ix (ix_any hr.units) (pe_callW O.h_law_titles hr (by rfl) passS (pa_cons (pv 2) (pa_cons pe_int pa_nil))) (pe_callW O.h_law_take hr (by rfl) passS (pa_cons (pv 2) (pa_cons pe_int pa_nil))) (fun _ _ => rfl)) pa_nil))))
    (pss_cons (ps_set (i := 5) sc_law.nd rfl (Or.inl rfl) (pe_or (pe_cmpR op_isN (pv 4) pe_non (nomark _)) (pe_one (pe_callB call_isi (by rfl) T.n_isinstance (by decide +kernel) (pa_cons (pv 4) (pa_cons (pe_bltn (v := .ty "int") (by rfl) T.n_int (by decide +kernel) rfl) pa_nil))))))
    (pss_one (ps_if (pt_not (pt_val (pe_callWG O.h_law_same hgs hr (by rfl) passS (pa_cons (pe_lst (pa_cons (pe_callW O.h_is_name hr (by rfl) passS (pa_cons (pv 4) pa_nil)) (pa_cons (pe_callW O.h_is_value hr (by rfl) passS (pa_cons (pv 4) pa_nil)) pa_nil))) (pa_cons (pe_lst (pa_cons (pe_callW O.h_law_named hr (by rfl) passS (pa_cons (pv 4) pa_nil)) (pa_cons (pe_or (pv 5) (pe_one (pe_callW O.h_law_named hr (by rfl) passS (pa_cons (pv 4) pa_nil)))) pa_nil))) pa_nil))))) (pss_one (ps_ret pe_bl)) pss_nil)))))
    (pss_cons (ps_setLc (i := 6) (own := [("_law_turn", 3)]) (g := gName 3) (tt := tYes) rfl sc_law.nd rfl rfl (sw_true rfl rfl rfl (by decide +kernel)) (pi_range1 (by rfl) T.n_range (pa_cons (pe_callW O.h_law_take hr (by rfl) passS (pa_cons (pv 2) (pa_cons pe_int pa_nil))) pa_nil)) (blkOk_by (own := [("_law_turn", 3)]) (N := ["_law_script", "_law_k", "_law_feed_here", "_law_turn", "_law_thing_here", "_law_plain", "_law_some", "_law_due", "_law_value_here", "_law_given", "_law_one", "_law_other", "_law_level", "_law_at"]) (sc := defScope s_law) (by decide +kernel)) (fun _ _ _ _ _ => (pg_name (i := 3) sc_law.nd rfl (Or.inl rfl))) (fun _ _ _ _ _ => pts_nil) (fun _ _ _ _ _ => (pe_callW O.h_law_value hr (by rfl) passS (pa_cons (pv 2) pa_nil))))
    (pss_cons (ps_set (i := 7) sc_law.nd rfl (Or.inr rfl) (pe_lst pa_nil))
    (pss_cons (ps_for PassesOwn.never rfl (pi_seq (pv 6)) (pg_name (i := 8) sc_law.nd rfl (Or.inr rfl)) (pss_one (ps_if (pt_cmpR (u_eq hr.units) (pe_lc (own := [("_law_other", 11)]) (g := gName 11) (by rfl) sc_law.nd (pi_seq (pv 7)) (blkOk_by (own := [("_law_other", 11)]) (N := ["_law_script", "_law_k", "_law_feed_here", "_law_turn", "_law_thing_here", "_law_plain", "_law_some", "_law_due", "_law_value_here", "_law_given", "_law_one", "_law_other", "_law_level", "_law_at"]) (sc := defScope s_law) (by decide +kernel)) (fun _ _ _ _ _ => (pg_name (i := 11) sc_law.nd rfl (Or.inl rfl))) (fun _ _ _ _ _ => (pts_one (pt_val (pe_callWG O.h_law_same hgs hr (by rfl) passS (pa_cons (pv 11) (pa_cons (pv 8) pa_nil)))))) (fun _ _ _ _ _ => pe_int)) (pe_lst pa_nil) (nomark _)) (pss_one (ps_expr (pe_bm PySem.F.plainAttrs_list PySem.F.slot_list_append PySem.F.type_list_append mt_append (pv 7) (pa_cons (pv 8) pa_nil)))) pss_nil)))
    (pss_cons (ps_set (i := 7) sc_law.nd rfl (Or.inr rfl) (pe_lc (own := [("_law_level", 12), ("_law_at", 13)]) (g := gTup K 2 (gCons (gName 12) (gCons (gName 13) gNil))) (tt := tYes) (by rfl) sc_law.nd (pi_seq (pe_callB (cr_sortA (by rfl) hr.units) (by rfl) T.n_sorted (by decide +kernel) (pa_cons (pe_lc (own := [("_law_at", 13), ("_law_value_here", 8)]) (g := gTup K 2 (gCons (gName 13) (gCons (gName 8) gNil))) (tt := tYes) (by rfl) sc_law.nd (pi_enum (by rfl) T.n_enumerate (pa_cons (pv 7) pa_nil)) (blkOk_by (own := [("_law_at", 13), ("_law_value_here", 8)]) (N := ["_law_script", "_law_k", "_law_feed_here", "_law_turn", "_law_thing_here", "_law_plain", "_law_some", "_law_due", "_law_value_here", "_law_given", "_law_one", "_law_other", "_law_level", "_law_at"]) (sc := defScope s_law) (by decide +kernel)) (fun _ _ _ _ _ => (pg_tup rfl (pgs_cons (pg_name (i := 13) sc_law.nd rfl (Or.inl rfl)) (pgs_cons (pg_name (i := 8) sc_law.nd rfl (Or.inl rfl)) pgs_nil)))) (fun _ _ _ _ _ => pts_nil) (fun _ _ _ _ _ => (pe_tup (pa_cons (pe_callW O.h_law_rank hr (by rfl) passS (pa_cons (pv 8) pa_nil)) (pa_cons (pv 13) pa_nil))))) pa_nil))) (blkOk_by (own := [("_law_level", 12), ("_law_at", 13)]) (N := ["_law_script", "_law_k", "_law_feed_here", "_law_turn", "_law_thing_here", "_law_plain", "_law_some", "_law_due", "_law_value_here", "_law_given", "_law_one", "_law_other", "_law_level", "_law_at"]) (sc := defScope s_law) (by decide +kernel)) (fun _ _ _ _ _ => (pg_tup rfl (pgs_cons (pg_name (i := 12) sc_law.nd rfl (Or.inl rfl)) (pgs_cons (pg_name (i := 13) sc_law.nd rfl (Or.inl rfl)) pgs_nil)))) (fun _ _ _ _ _ => pts_nil) (fun _ _ _ _ _ => (pe_ix (ix_any hr.units) (pv 7) (pv 13) (fun _ _ => rfl)))))
    (pss_cons (ps_set (i := 9) sc_law.nd rfl (Or.inl rfl) (pe_ifExp (pt_cmpR (u_eq hr.units) (pe_callW O.h_law_take hr (by rfl) passS (pa_cons (pv 2) (pa_cons pe_int pa_nil))) pe_int (nomark _)) (pe_callTy cr_tup (by rfl) T.n_tuple (by decide +kernel) (pa_cons (pv 6) pa_nil)) (pe_callTy call_list_of (by rfl) T.n_list (by decide +kernel) (pa_cons (pv 6) pa_nil))))
    (pss_cons (ps_if (pt_not (pt_val (pe_callWG O.h_law_same hgs hr (by rfl) passS (pa_cons (pe_callW O.h_in_order hr (by rfl) passS (pa_cons (pv 9) pa_nil)) (pa_cons (pv 7) pa_nil))))) (pss_one (ps_ret pe_bl)) pss_nil)
    (pss_one (ps_for PassesOwn.never rfl (pi_seq (pv 6)) (pg_name (i := 10) sc_law.nd rfl (Or.inr rfl)) (pss_cons (ps_if (pt_not (pt_val (pe_callWG O.h_law_same hgs hr (by rfl) passS (pa_cons (pe_callW O.h_show hr (by rfl) passS (pa_cons (pv 10) pa_nil)) (pa_cons (pe_callW O.h_law_text hr (by rfl) passS (pa_cons (pv 10) pa_nil)) pa_nil))))) (pss_one (ps_ret pe_bl)) pss_nil)
    (pss_one (ps_if (pt_not (pt_val (pe_callWG O.h_law_same hgs hr (by rfl) passS (pa_cons (pe_lc (own := [("_law_other", 11)]) (g := gName 11) (tt := tYes) (by rfl) sc_law.nd (pi_seq (pv 6)) (blkOk_by (own := [("_law_other", 11)]) (N := ["_law_script", "_law_k", "_law_feed_here", "_law_turn", "_law_thing_here", "_law_plain", "_law_some", "_law_due", "_law_value_here", "_law_given", "_law_one", "_law_other", "_law_level", "_law_at"]) (sc := defScope s_law) (by decide +kernel)) (fun _ _ _ _ _ => (pg_name (i := 11) sc_law.nd rfl (Or.inl rfl))) (fun _ _ _ _ _ => pts_nil) (fun _ _ _ _ _ => (pe_callW O.h_is_same hr (by rfl) passS (pa_cons (pv 10) (pa_cons (pv 11) pa_nil))))) (pa_cons (pe_lc (own := [("_law_other", 11)]) (g := gName 11) (tt := tYes) (by rfl) sc_law.nd (pi_seq (pv 6)) (blkOk_by (own := [("_law_other", 11)]) (N := ["_law_script", "_law_k", "_law_feed_here", "_law_turn", "_law_thing_here", "_law_plain", "_law_some", "_law_due", "_law_value_here", "_law_given", "_law_one", "_law_other", "_law_level", "_law_at"]) (sc := defScope s_law) (by decide +kernel)) (fun _ _ _ _ _ => (pg_name (i := 11) sc_law.nd rfl (Or.inl rfl))) (fun _ _ _ _ _ => pts_nil) (fun _ _ _ _ _ => (pe_callWG O.h_law_same hgs hr (by rfl) passS (pa_cons (pv 10) (pa_cons (pv 11) pa_nil))))) pa_nil))))) (pss_one (ps_ret pe_bl)) pss_nil))))))))))))))
    (pss_one (ps_ret pe_bl))), fn_body (E := E0) (N := ["_law_script", "_law_k", "_law_feed_here", "_law_turn", "_law_thing_here", "_law_plain", "_law_some", "_law_due", "_law_value_here", "_law_given", "_law_one", "_law_other", "_law_level", "_law_at"]) (sv_seq (sv_for (iv_rng1 (al_cons (ar_val (ev_cb (al_cons (ar_val ev_int) (al_cons (ar_val (ev_cb (al_cons (ar_val ev_int) (al_cons (ar_val (ev_cb (al_cons ar_slot al_nil) o_len)) al_nil)) o_ii)) al_nil)) o_ii)) al_nil)) gv_name (sv_seq (sv_set (ev_callS (al_cons ar_slot (al_cons ar_slot al_nil))))
    (sv_seq (sv_for (iv_rng1 (al_cons (ar_val ev_int) al_nil)) gv_name (sv_seq (sv_set (ev_callS (al_cons ar_slot (al_cons (ar_val (ev_op2 (ar_val (ev_callS (al_cons ar_slot (al_cons (ar_val ev_int) al_nil)))) (ar_val (ev_callS (al_cons ar_slot (al_cons (ar_val ev_int) al_nil)))) o_ixA)) al_nil))))
    (sv_seq (sv_set (ev_or (ev_op2 ar_slot (ar_val ev_non) o_isN) (ev_cb (al_cons ar_slot (al_cons (ar_val ev_ty) al_nil)) o_isi)))
    (sv_if (tv_not (tv_val (ev_callS (al_cons (ar_val (ev_lst (al_cons (ar_keep (ev_callS (al_cons ar_slot al_nil))) (al_cons (ar_keep (ev_callS (al_cons ar_slot al_nil))) al_nil)))) (al_cons (ar_val (ev_lst (al_cons (ar_keep (ev_callS (al_cons ar_slot al_nil))) (al_cons (ar_keep (ev_or ev_var (ev_callS (al_cons ar_slot al_nil)))) al_nil)))) al_nil))))) (sv_ret ev_bl) sv_next))))
    (sv_seq (sv_set (ev_lc (iv_rng1 (al_cons (ar_val (ev_callS (al_cons ar_slot (al_cons (ar_val ev_int) al_nil)))) al_nil)) gv_name tv_yes (ev_callS (al_cons ar_slot al_nil)) (by decide)))
    (sv_seq (sv_set (ev_lst al_nil))
    (sv_seq (sv_for (iv_seq ar_slot) gv_name (sv_if (tv_test (ev_op2 (ar_val (ev_lc (iv_seq ar_slot) gv_name (tv_val (ev_callS (al_cons ar_slot (al_cons ar_slot al_nil)))) ev_int (by decide))) (ar_val (ev_lst al_nil)) o_eq)) (sv_expr (ev_meth (al_cons (ar_keep ev_var) al_nil) o_append)) sv_next))
    (sv_seq (sv_set (ev_lc (iv_seq (ar_val (ev_cb (al_cons (ar_val (ev_lc (iv_enum (al_cons (ar_keep ev_var) al_nil)) (gv_tup (gvs_cons gv_name (gvs_cons gv_name gvs_nil))) tv_yes (ev_tup (al_cons (ar_keep (ev_callS (al_cons ar_slot al_nil))) (al_cons (ar_keep ev_var) al_nil))) (by decide))) al_nil) o_sorted))) (gv_tup (gvs_cons gv_name (gvs_cons gv_name gvs_nil))) tv_yes (ev_op2 ar_slot ar_slot o_ixA) (by decide)))
    (sv_seq (sv_set (ev_if (tv_test (ev_op2 (ar_val (ev_callS (al_cons ar_slot (al_cons (ar_val ev_int) al_nil)))) (ar_val ev_int) o_eq)) (ev_cb (al_cons ar_slot al_nil) o_tuple) (ev_cb (al_cons ar_slot al_nil) o_list)))
    (sv_seq (sv_if (tv_not (tv_val (ev_callS (al_cons (ar_val (ev_callS (al_cons ar_slot al_nil))) (al_cons ar_slot al_nil))))) (sv_ret ev_bl) sv_next)
    (sv_for (iv_seq ar_slot) gv_name (sv_seq (sv_if (tv_not (tv_val (ev_callS (al_cons (ar_val (ev_callS (al_cons ar_slot al_nil))) (al_cons (ar_val (ev_callS (al_cons ar_slot al_nil))) al_nil))))) (sv_ret ev_bl) sv_next)
    (sv_if (tv_not (tv_val (ev_callS (al_cons (ar_val (ev_lc (iv_seq ar_slot) gv_name tv_yes (ev_callS (al_cons ar_slot (al_cons ar_slot al_nil))) (by decide))) (al_cons (ar_val (ev_lc (iv_seq ar_slot) gv_name tv_yes (ev_callS (al_cons ar_slot (al_cons ar_slot al_nil))) (by decide))) al_nil))))) (sv_ret ev_bl) sv_next))))))))))))
    (sv_ret ev_bl)) (by decide) h⟩
end
end Law

set_option Elab.async false
set_option linter.all false
set_option maxRecDepth 100000
set_option maxHeartbeats 1000000
/-! K2b: what the functions of k02 give, by values. -/
namespace Law
open PySem L2 EV
abbrev feed (own st : Int) : D := .lst true [.int own, .int st]
theorem atI0 {α : Type} {x : α} {zs : List α} : atI (x :: zs) 0 = some x := by simp [atI, ixN]
theorem atI_nat {α : Type} {zs : List α} {n : Nat} : atI zs (n : Int) = zs[n]? := by
  unfold atI ixN
  by_cases h : n < zs.length
  · have h1 : ¬ (n : Int) < 0 := by omega
    simp [h1, h]
  · have h1 : ¬ (n : Int) < 0 := by omega
    simp [h1, h]
theorem atI1 {α : Type} {x y : α} {zs : List α} : atI (x :: y :: zs) 1 = some y := atI_nat (n := 1)
/-! ### draws -/
structure Fd (d : D) : Prop where
  ex : ∃ own st : Int, d = feed own st ∧ 0 ≤ own ∧ 0 < st ∧ st < 2147483648
theorem take_pos {own st m : Int} (h : 0 < own) (hm : 0 < m) (hm' : m < 18446744073709551616) : f_take [feed own st, .int m] = .ok ([feed (own / m) st, .int m], .int (own % m)) := by
  have hl : m.natAbs.log2 < 9000 := Nat.lt_of_lt_of_le (PySem.Flt.log2_lt_of (k := 64) (by decide) (by omega)) (by decide)
  simp [f_take, v_take, fnOf, begin_, fin, outs, vSeq, vIfS, vIf, vB, vOp, vCons, vVal, vSlot, vVar, vC, vNil, vFin, resAll, Arg.res, vIce, D.ice, ices, D.fz, fzs, vSet, vRet, vRetV, vNext, vExpr, vCall, vFinC, once, owned, putB, fIxA, ixA, ixD, D.seq?, atI0, atI1, fGt, fGe, fLe, fLt, fCmp, fI2, fI, fMod, fIc, cMod, cDiv, fDiv, fSub, fPow, cPow, fAdd, fMul, vStore, vFinS, ixN, fLst, fTup, fLen, lenD, fAbs, fMax2, fMin2, fInt, fNeg, fIsN, D.isN, fIsi, D.ty?, fEq, eqD, D.sv, vNot, vAnd, vOr, vNotT, vAndT, vOrT, vChain, fIn, vAsg, gvTup, gvCons, gvName, gvNil, LIM, scal, flatV, h, hm, hl]
theorem take_zero {st m : Int} (hs : 0 < st) (hs' : st < 2147483648) (hm : 0 < m) (hm' : m < 18446744073709551616) : ∃ st' r, f_take [feed 0 st, .int m] = .ok ([feed 0 st', .int m], .int r) ∧ 0 < st' ∧ st' < 2147483648 ∧ 0 ≤ r ∧ r < m := by
  have hl : m.natAbs.log2 < 9000 := Nat.lt_of_lt_of_le (PySem.Flt.log2_lt_of (k := 64) (by decide) (by omega)) (by decide)
  have h1 : st.natAbs.log2 + 15 < 1000000 := by have := PySem.Flt.log2_lt_of (k := 64) (n := st.natAbs) (by decide) (by omega); omega
  have h2 : (st * 48271 % 2147483647).natAbs.log2 < 64 := PySem.Flt.log2_lt_of (k := 64) (n := (st * 48271 % 2147483647).natAbs) (by decide) (by omega)
  have h3 : (st * 48271 % 2147483647).natAbs.log2 + 30 < 1000000 := by omega
  have h4 : (st * 48271 % 2147483647).natAbs.log2 + 15 < 1000000 := by omega
  refine ⟨(st * 48271 % 2147483647 * 40692 + 12345) % 2147483399 + 1, (st * 48271 % 2147483647 * 2147483647 + ((st * 48271 % 2147483647 * 40692 + 12345) % 2147483399 + 1)) / 8191 % m, ?_, by omega, by omega, Int.emod_nonneg _ (by omega), Int.emod_lt_of_pos _ hm⟩
  have e1 : Nat.log2 48271 = 15 := by decide +kernel
  have e2 : Nat.log2 40692 = 15 := by decide +kernel
  have e3 : Nat.log2 2147483647 = 30 := by decide +kernel
  have e4 : Nat.log2 8191 < 9000 := by decide +kernel
  simp [f_take, v_take, fnOf, begin_, fin, outs, vSeq, vIfS, vIf, vB, vOp, vCons, vVal, vSlot, vVar, vC, vNil, vFin, resAll, Arg.res, vIce, D.ice, ices, D.fz, fzs, vSet, vRet, vRetV, vNext, vExpr, vCall, vFinC, once, owned, putB, fIxA, ixA, ixD, D.seq?, atI0, atI1, fGt, fGe, fLe, fLt, fCmp, fI2, fI, fMod, fIc, cMod, cDiv, fDiv, fSub, fPow, cPow, fAdd, fMul, vStore, vFinS, ixN, fLst, fTup, fLen, lenD, fAbs, fMax2, fMin2, fInt, fNeg, fIsN, D.isN, fIsi, D.ty?, fEq, eqD, D.sv, vNot, vAnd, vOr, vNotT, vAndT, vOrT, vChain, fIn, vAsg, gvTup, gvCons, gvName, gvNil, LIM, scal, flatV, hm, hl, e1, e2, e3, e4, h1, h3, h4]
theorem take_ok {d : D} {m : Int} (h : Fd d) (hm : 0 < m) (hm' : m < 18446744073709551616) : ∃ d' r, f_take [d, .int m] = .ok ([d', .int m], .int r) ∧ Fd d' ∧ 0 ≤ r ∧ r < m := by
  obtain ⟨own, st, rfl, h1, h2, h3⟩ := h.ex
  by_cases ho : 0 < own
  · exact ⟨_, _, take_pos ho hm hm', ⟨_, _, rfl, Int.ediv_nonneg h1 (by omega), h2, h3⟩, Int.emod_nonneg _ (by omega), Int.emod_lt_of_pos _ hm⟩
  · have : own = 0 := by omega
    subst this
    obtain ⟨st', r, e, a, b, c, d⟩ := take_zero h2 h3 hm hm'
    exact ⟨_, _, e, ⟨_, _, rfl, Int.le_refl _, a, b⟩, c, d⟩
theorem Fd.fz {d : D} (h : Fd d) : d.fz = false := by
  obtain ⟨own, st, rfl, _⟩ := h.ex
  rfl
/-! ### kinds -/
theorem kind_non : f_kindof [.non] = .ok ([.non], .str "none") := by simp [f_kindof, v_kindof, fnOf, begin_, fin, outs, vSeq, vIfS, vIf, vB, vOp, vCons, vVal, vSlot, vVar, vC, vNil, vFin, resAll, Arg.res, vIce, D.ice, ices, D.fz, fzs, vSet, vRet, vRetV, vNext, vExpr, vCall, vFinC, once, owned, putB, fIxA, ixA, ixD, D.seq?, atI0, atI1, fGt, fGe, fLe, fLt, fCmp, fI2, fI, fMod, fIc, cMod, cDiv, fDiv, fSub, fPow, cPow, fAdd, fMul, vStore, vFinS, ixN, fLst, fTup, fLen, lenD, fAbs, fMax2, fMin2, fInt, fNeg, fIsN, D.isN, fIsi, D.ty?, fEq, eqD, D.sv, vNot, vAnd, vOr, vNotT, vAndT, vOrT, vChain, fIn, vAsg, gvTup, gvCons, gvName, gvNil, LIM, scal, flatV, isa, isaT]
theorem kind_bl {b : Bool} : f_kindof [.bl b] = .ok ([.bl b], .str "truth") := by simp [f_kindof, v_kindof, fnOf, begin_, fin, outs, vSeq, vIfS, vIf, vB, vOp, vCons, vVal, vSlot, vVar, vC, vNil, vFin, resAll, Arg.res, vIce, D.ice, ices, D.fz, fzs, vSet, vRet, vRetV, vNext, vExpr, vCall, vFinC, once, owned, putB, fIxA, ixA, ixD, D.seq?, atI0, atI1, fGt, fGe, fLe, fLt, fCmp, fI2, fI, fMod, fIc, cMod, cDiv, fDiv, fSub, fPow, cPow, fAdd, fMul, vStore, vFinS, ixN, fLst, fTup, fLen, lenD, fAbs, fMax2, fMin2, fInt, fNeg, fIsN, D.isN, fIsi, D.ty?, fEq, eqD, D.sv, vNot, vAnd, vOr, vNotT, vAndT, vOrT, vChain, fIn, vAsg, gvTup, gvCons, gvName, gvNil, LIM, scal, flatV, isa, isaT]
theorem kind_int {b : Int} : f_kindof [.int b] = .ok ([.int b], .str "number") := by simp [f_kindof, v_kindof, fnOf, begin_, fin, outs, vSeq, vIfS, vIf, vB, vOp, vCons, vVal, vSlot, vVar, vC, vNil, vFin, resAll, Arg.res, vIce, D.ice, ices, D.fz, fzs, vSet, vRet, vRetV, vNext, vExpr, vCall, vFinC, once, owned, putB, fIxA, ixA, ixD, D.seq?, atI0, atI1, fGt, fGe, fLe, fLt, fCmp, fI2, fI, fMod, fIc, cMod, cDiv, fDiv, fSub, fPow, cPow, fAdd, fMul, vStore, vFinS, ixN, fLst, fTup, fLen, lenD, fAbs, fMax2, fMin2, fInt, fNeg, fIsN, D.isN, fIsi, D.ty?, fEq, eqD, D.sv, vNot, vAnd, vOr, vNotT, vAndT, vOrT, vChain, fIn, vAsg, gvTup, gvCons, gvName, gvNil, LIM, scal, flatV, isa, isaT]
theorem kind_str {b : Str} : f_kindof [.str b] = .ok ([.str b], .str "word") := by simp [f_kindof, v_kindof, fnOf, begin_, fin, outs, vSeq, vIfS, vIf, vB, vOp, vCons, vVal, vSlot, vVar, vC, vNil, vFin, resAll, Arg.res, vIce, D.ice, ices, D.fz, fzs, vSet, vRet, vRetV, vNext, vExpr, vCall, vFinC, once, owned, putB, fIxA, ixA, ixD, D.seq?, atI0, atI1, fGt, fGe, fLe, fLt, fCmp, fI2, fI, fMod, fIc, cMod, cDiv, fDiv, fSub, fPow, cPow, fAdd, fMul, vStore, vFinS, ixN, fLst, fTup, fLen, lenD, fAbs, fMax2, fMin2, fInt, fNeg, fIsN, D.isN, fIsi, D.ty?, fEq, eqD, D.sv, vNot, vAnd, vOr, vNotT, vAndT, vOrT, vChain, fIn, vAsg, gvTup, gvCons, gvName, gvNil, LIM, scal, flatV, isa, isaT]
/-! ### what is a value -/
def words : List Str := ["a", "b7", "none", "truth", "zzzzzz", "card", "care", "aa", "b"]
inductive Val : D → Prop
  | non : Val .non
  | bl (b : Bool) : Val (.bl b)
  | int (i : Int) (h : i.natAbs ≤ 10 ^ 18) : Val (.int i)
  | str (z : Str) (h : z ∈ words) : Val (.str z)
def rk : D → D
  | .non => .tup true [.int 0, .int 0, .str ""]
  | .bl b => .tup true [.int 3, .int (if b then 1 else 0), .str ""]
  | .int i => .tup true [.int 1, .int i, .str ""]
  | .str z => .tup true [.int 2, .int 0, .str z]
  | d => d
theorem rank_ok {d : D} (h : Val d) : f_rank [d] = .ok ([d], rk d) := by
  cases h with
  | non => simp +decide [f_rank, v_rank, fnOf, begin_, fin, outs, vSeq, vIfS, vIf, vB, vOp, vCons, vVal, vSlot, vVar, vC, vNil, vFin, resAll, Arg.res, vIce, D.ice, ices, D.fz, fzs, vSet, vRet, vRetV, vNext, vExpr, vCall, vFinC, once, owned, putB, fIxA, ixA, ixD, D.seq?, atI0, atI1, fGt, fGe, fLe, fLt, fCmp, fI2, fI, fMod, fIc, cMod, cDiv, fDiv, fSub, fPow, cPow, fAdd, fMul, vStore, vFinS, ixN, fLst, fTup, fLen, lenD, fAbs, fMax2, fMin2, fInt, fNeg, fIsN, D.isN, fIsi, D.ty?, fEq, eqD, D.sv, vNot, vAnd, vOr, vNotT, vAndT, vOrT, vChain, fIn, vAsg, gvTup, gvCons, gvName, gvNil, LIM, scal, flatV, kind_non, fIndex, rk, List.findIdx?_cons]
  | bl b => cases b <;> simp +decide [f_rank, v_rank, fnOf, begin_, fin, outs, vSeq, vIfS, vIf, vB, vOp, vCons, vVal, vSlot, vVar, vC, vNil, vFin, resAll, Arg.res, vIce, D.ice, ices, D.fz, fzs, vSet, vRet, vRetV, vNext, vExpr, vCall, vFinC, once, owned, putB, fIxA, ixA, ixD, D.seq?, atI0, atI1, fGt, fGe, fLe, fLt, fCmp, fI2, fI, fMod, fIc, cMod, cDiv, fDiv, fSub, fPow, cPow, fAdd, fMul, vStore, vFinS, ixN, fLst, fTup, fLen, lenD, fAbs, fMax2, fMin2, fInt, fNeg, fIsN, D.isN, fIsi, D.ty?, fEq, eqD, D.sv, vNot, vAnd, vOr, vNotT, vAndT, vOrT, vChain, fIn, vAsg, gvTup, gvCons, gvName, gvNil, LIM, scal, flatV, kind_bl, fIndex, rk, List.findIdx?_cons]
  | int i h => simp +decide [f_rank, v_rank, fnOf, begin_, fin, outs, vSeq, vIfS, vIf, vB, vOp, vCons, vVal, vSlot, vVar, vC, vNil, vFin, resAll, Arg.res, vIce, D.ice, ices, D.fz, fzs, vSet, vRet, vRetV, vNext, vExpr, vCall, vFinC, once, owned, putB, fIxA, ixA, ixD, D.seq?, atI0, atI1, fGt, fGe, fLe, fLt, fCmp, fI2, fI, fMod, fIc, cMod, cDiv, fDiv, fSub, fPow, cPow, fAdd, fMul, vStore, vFinS, ixN, fLst, fTup, fLen, lenD, fAbs, fMax2, fMin2, fInt, fNeg, fIsN, D.isN, fIsi, D.ty?, fEq, eqD, D.sv, vNot, vAnd, vOr, vNotT, vAndT, vOrT, vChain, fIn, vAsg, gvTup, gvCons, gvName, gvNil, LIM, scal, flatV, kind_int, fIndex, rk, List.findIdx?_cons]
  | str z h => simp +decide [f_rank, v_rank, fnOf, begin_, fin, outs, vSeq, vIfS, vIf, vB, vOp, vCons, vVal, vSlot, vVar, vC, vNil, vFin, resAll, Arg.res, vIce, D.ice, ices, D.fz, fzs, vSet, vRet, vRetV, vNext, vExpr, vCall, vFinC, once, owned, putB, fIxA, ixA, ixD, D.seq?, atI0, atI1, fGt, fGe, fLe, fLt, fCmp, fI2, fI, fMod, fIc, cMod, cDiv, fDiv, fSub, fPow, cPow, fAdd, fMul, vStore, vFinS, ixN, fLst, fTup, fLen, lenD, fAbs, fMax2, fMin2, fInt, fNeg, fIsN, D.isN, fIsi, D.ty?, fEq, eqD, D.sv, vNot, vAnd, vOr, vNotT, vAndT, vOrT, vChain, fIn, vAsg, gvTup, gvCons, gvName, gvNil, LIM, scal, flatV, kind_str, fIndex, rk, List.findIdx?_cons]
theorem lrank_ok {d : D} (h : Val d) : f_lrank [d] = .ok ([d], rk d) := by
  cases h with
  | non => simp [f_lrank, v_lrank, fnOf, begin_, fin, outs, vSeq, vIfS, vIf, vB, vOp, vCons, vVal, vSlot, vVar, vC, vNil, vFin, resAll, Arg.res, vIce, D.ice, ices, D.fz, fzs, vSet, vRet, vRetV, vNext, vExpr, vCall, vFinC, once, owned, putB, fIxA, ixA, ixD, D.seq?, atI0, atI1, fGt, fGe, fLe, fLt, fCmp, fI2, fI, fMod, fIc, cMod, cDiv, fDiv, fSub, fPow, cPow, fAdd, fMul, vStore, vFinS, ixN, fLst, fTup, fLen, lenD, fAbs, fMax2, fMin2, fInt, fNeg, fIsN, D.isN, fIsi, D.ty?, fEq, eqD, D.sv, vNot, vAnd, vOr, vNotT, vAndT, vOrT, vChain, fIn, vAsg, gvTup, gvCons, gvName, gvNil, LIM, scal, flatV, rk, isa, isaT]
  | bl b => cases b <;> simp [f_lrank, v_lrank, fnOf, begin_, fin, outs, vSeq, vIfS, vIf, vB, vOp, vCons, vVal, vSlot, vVar, vC, vNil, vFin, resAll, Arg.res, vIce, D.ice, ices, D.fz, fzs, vSet, vRet, vRetV, vNext, vExpr, vCall, vFinC, once, owned, putB, fIxA, ixA, ixD, D.seq?, atI0, atI1, fGt, fGe, fLe, fLt, fCmp, fI2, fI, fMod, fIc, cMod, cDiv, fDiv, fSub, fPow, cPow, fAdd, fMul, vStore, vFinS, ixN, fLst, fTup, fLen, lenD, fAbs, fMax2, fMin2, fInt, fNeg, fIsN, D.isN, fIsi, D.ty?, fEq, eqD, D.sv, vNot, vAnd, vOr, vNotT, vAndT, vOrT, vChain, fIn, vAsg, gvTup, gvCons, gvName, gvNil, LIM, scal, flatV, rk, isa, isaT]
  | int i h => simp [f_lrank, v_lrank, fnOf, begin_, fin, outs, vSeq, vIfS, vIf, vB, vOp, vCons, vVal, vSlot, vVar, vC, vNil, vFin, resAll, Arg.res, vIce, D.ice, ices, D.fz, fzs, vSet, vRet, vRetV, vNext, vExpr, vCall, vFinC, once, owned, putB, fIxA, ixA, ixD, D.seq?, atI0, atI1, fGt, fGe, fLe, fLt, fCmp, fI2, fI, fMod, fIc, cMod, cDiv, fDiv, fSub, fPow, cPow, fAdd, fMul, vStore, vFinS, ixN, fLst, fTup, fLen, lenD, fAbs, fMax2, fMin2, fInt, fNeg, fIsN, D.isN, fIsi, D.ty?, fEq, eqD, D.sv, vNot, vAnd, vOr, vNotT, vAndT, vOrT, vChain, fIn, vAsg, gvTup, gvCons, gvName, gvNil, LIM, scal, flatV, rk, isa, isaT]
  | str z h => simp [f_lrank, v_lrank, fnOf, begin_, fin, outs, vSeq, vIfS, vIf, vB, vOp, vCons, vVal, vSlot, vVar, vC, vNil, vFin, resAll, Arg.res, vIce, D.ice, ices, D.fz, fzs, vSet, vRet, vRetV, vNext, vExpr, vCall, vFinC, once, owned, putB, fIxA, ixA, ixD, D.seq?, atI0, atI1, fGt, fGe, fLe, fLt, fCmp, fI2, fI, fMod, fIc, cMod, cDiv, fDiv, fSub, fPow, cPow, fAdd, fMul, vStore, vFinS, ixN, fLst, fTup, fLen, lenD, fAbs, fMax2, fMin2, fInt, fNeg, fIsN, D.isN, fIsi, D.ty?, fEq, eqD, D.sv, vNot, vAnd, vOr, vNotT, vAndT, vOrT, vChain, fIn, vAsg, gvTup, gvCons, gvName, gvNil, LIM, scal, flatV, rk, isa, isaT]
end Law

set_option Elab.async false
set_option linter.all false
set_option maxRecDepth 100000
set_option maxHeartbeats 1000000
/-! RX: texts of numbers; what repr tells apart. -/
namespace EV
open PySem L2
theorem ofS_list {a : String} : (Str.ofString a).cps.toList = a.toList.map Char.toNat := by
  rw [Str.ofString_eq_toList]
theorem ofS_inj {a b : String} (h : Str.ofString a = Str.ofString b) : a = b := by
  have e : a.toList.map Char.toNat = b.toList.map Char.toNat := by rw [← ofS_list, ← ofS_list, h]
  have inj : ∀ {l m : List Char}, l.map Char.toNat = m.map Char.toNat → l = m := fun {l} => by
    induction l with
    | nil => intro m h; cases m with
      | nil => rfl
      | cons => simp at h
    | cons x l ih => intro m h; cases m with
      | nil => simp at h
      | cons y m =>
        injection h with h1 h2
        rw [ih h2]
        have : x = y := by
          apply Char.ext
          exact UInt32.toNat_inj.mp h1
        rw [this]
  exact String.toList_inj.mp (inj e)
/-- the text of a number -/
abbrev iS (i : Int) : Str := Str.ofString (toString i)
theorem iS_inj {i j : Int} : iS i = iS j ↔ i = j := ⟨fun h => Int.repr_inj.mp (ofS_inj h), fun h => by rw [h]⟩
theorem dig_nat {c : Char} (h : c.isDigit = true) : 48 ≤ c.toNat ∧ c.toNat ≤ 57 := by
  unfold Char.isDigit at h
  rw [Bool.and_eq_true, decide_eq_true_eq, decide_eq_true_eq] at h
  exact ⟨UInt32.le_iff_toNat_le.mp h.1, UInt32.le_iff_toNat_le.mp h.2⟩
theorem iS_head (i : Int) : ∃ c r, (iS i).cps.toList = c :: r ∧ (c = 45 ∨ (48 ≤ c ∧ c ≤ 57)) := by
  rw [ofS_list]
  show ∃ c r, (Int.repr i).toList.map Char.toNat = c :: r ∧ _
  rw [Int.repr_eq_if]
  split
  · cases h : (Nat.repr i.toNat).toList with
    | nil =>
      rw [Nat.toList_repr] at h
      exact absurd h Nat.toDigits_ne_nil
    | cons c r =>
      refine ⟨c.toNat, r.map Char.toNat, rfl, .inr (dig_nat ?_)⟩
      rw [Nat.toList_repr] at h
      exact Nat.isDigit_of_mem_toDigits (b := 10) (n := i.toNat) (by decide) (by decide) (by rw [h]; simp)
  · refine ⟨45, (Nat.repr (-i).toNat).toList.map Char.toNat, ?_, .inl rfl⟩
    rw [String.toList_append]
    rfl
theorem iS_ne {i : Int} {z : Str} (h : ∀ c, z.cps.toList.head? = some c → c ≠ 45 ∧ ¬ (48 ≤ c ∧ c ≤ 57)) (hz : z.cps.toList ≠ []) : iS i ≠ z := fun e => by
  obtain ⟨c, r, h1, h2⟩ := iS_head i
  rw [e] at h1
  have := h c (by rw [h1]; rfl)
  rcases h2 with h2 | h2
  · exact this.1 h2
  · exact this.2 h2
theorem iS_len {i : Int} {k : Nat} (hk : 0 < k) (h : i.natAbs < 10 ^ k) : (iS i).length ≤ k + 1 := by
  rw [PySem.ofString_length]
  show (Int.repr i).length ≤ k + 1
  rw [← String.length_toList, Int.repr_eq_if]
  split
  · rw [Nat.toList_repr]
    have := (Nat.length_toDigits_le_iff (b := 10) (n := i.toNat) (by decide) hk).mpr (by omega)
    omega
  · rw [String.toList_append, List.length_append, Nat.toList_repr]
    have := (Nat.length_toDigits_le_iff (b := 10) (n := (-i).toNat) (by decide) hk).mpr (by omega)
    have e : "-".toList.length = 1 := rfl
    omega
end EV

set_option Elab.async false
set_option linter.all false
set_option maxRecDepth 100000
set_option maxHeartbeats 2000000
/-! K2c: texts, equality, names. -/
namespace Law
open PySem L2 EV
/-- the plain equality of values -/
def sm : D → D → Bool
  | .non, .non => true
  | .bl a, .bl b => decide (a = b)
  | .int a, .int b => decide (a = b)
  | .str a, .str b => decide (a = b)
  | _, _ => false
theorem issame_ok {x y : D} (hx : Val x) (hy : Val y) : f_issame [x, y] = .ok ([x, y], .bl (sm x y)) := by
  cases hx <;> cases hy <;> simp +decide [f_issame, v_issame, fnOf, begin_, fin, outs, vSeq, vIfS, vIf, vB, vOp, vCons, vVal, vSlot, vVar, vC, vNil, vFin, resAll, Arg.res, vIce, D.ice, ices, D.fz, fzs, vSet, vRet, vRetV, vNext, vExpr, vCall, vFinC, once, owned, putB, fIxA, ixA, ixD, D.seq?, atI0, atI1, fGt, fGe, fLe, fLt, fCmp, fI2, fI, fMod, fIc, cMod, cDiv, fDiv, fSub, fPow, cPow, fAdd, fMul, vStore, vFinS, ixN, fLst, fTup, fLen, lenD, fAbs, fMax2, fMin2, fInt, fNeg, fIsN, D.isN, fIsi, D.ty?, fEq, eqD, D.sv, vNot, vAnd, vOr, vNotT, vAndT, vOrT, vChain, fIn, vAsg, gvTup, gvCons, gvName, gvNil, LIM, scal, flatV, kind_non, kind_bl, kind_int, kind_str, sm]
def txt : D → Str
  | .non => "none"
  | .bl b => if b then "true" else "false"
  | .int i => iS i
  | .str z => "'" ++ z
  | _ => ""
theorem log_ok {i : Int} (h : i.natAbs ≤ 10 ^ 18) : i.natAbs.log2 < 1920 := by
  have := PySem.Flt.log2_lt_of (k := 64) (n := i.natAbs) (by decide) (by omega)
  omega
theorem words_len {z : Str} (h : z ∈ words) : z.length ≤ 6 := by
  have : (words.all fun z => decide (z.length ≤ 6)) = true := by decide +kernel
  exact of_decide_eq_true (List.all_eq_true.mp this z h)
theorem show_ok {x : D} (hx : Val x) : f_show [x] = .ok ([x], .str (txt x)) := by
  cases hx with
  | non => simp +decide [f_show, v_show, fnOf, begin_, fin, outs, vSeq, vIfS, vIf, vB, vOp, vCons, vVal, vSlot, vVar, vC, vNil, vFin, resAll, Arg.res, vIce, D.ice, ices, D.fz, fzs, vSet, vRet, vRetV, vNext, vExpr, vCall, vFinC, once, owned, putB, fIxA, ixA, ixD, D.seq?, atI0, atI1, fGt, fGe, fLe, fLt, fCmp, fI2, fI, fMod, fIc, cMod, cDiv, fDiv, fSub, fPow, cPow, fAdd, fMul, vStore, vFinS, ixN, fLst, fTup, fLen, lenD, fAbs, fMax2, fMin2, fInt, fNeg, fIsN, D.isN, fIsi, D.ty?, fEq, eqD, D.sv, vNot, vAnd, vOr, vNotT, vAndT, vOrT, vChain, fIn, vAsg, gvTup, gvCons, gvName, gvNil, LIM, scal, flatV, kind_non, txt]
  | bl b => cases b <;> simp +decide [f_show, v_show, fnOf, begin_, fin, outs, vSeq, vIfS, vIf, vB, vOp, vCons, vVal, vSlot, vVar, vC, vNil, vFin, resAll, Arg.res, vIce, D.ice, ices, D.fz, fzs, vSet, vRet, vRetV, vNext, vExpr, vCall, vFinC, once, owned, putB, fIxA, ixA, ixD, D.seq?, atI0, atI1, fGt, fGe, fLe, fLt, fCmp, fI2, fI, fMod, fIc, cMod, cDiv, fDiv, fSub, fPow, cPow, fAdd, fMul, vStore, vFinS, ixN, fLst, fTup, fLen, lenD, fAbs, fMax2, fMin2, fInt, fNeg, fIsN, D.isN, fIsi, D.ty?, fEq, eqD, D.sv, vNot, vAnd, vOr, vNotT, vAndT, vOrT, vChain, fIn, vAsg, gvTup, gvCons, gvName, gvNil, LIM, scal, flatV, kind_bl, txt]
  | int i h =>
    simp +decide [f_show, v_show, fnOf, begin_, fin, outs, vSeq, vIfS, vIf, vB, vOp, vCons, vVal, vSlot, vVar, vC, vNil, vFin, resAll, Arg.res, vIce, D.ice, ices, D.fz, fzs, vSet, vRet, vRetV, vNext, vExpr, vCall, vFinC, once, owned, putB, fIxA, ixA, ixD, D.seq?, atI0, atI1, fGt, fGe, fLe, fLt, fCmp, fI2, fI, fMod, fIc, cMod, cDiv, fDiv, fSub, fPow, cPow, fAdd, fMul, vStore, vFinS, ixN, fLst, fTup, fLen, lenD, fAbs, fMax2, fMin2, fInt, fNeg, fIsN, D.isN, fIsi, D.ty?, fEq, eqD, D.sv, vNot, vAnd, vOr, vNotT, vAndT, vOrT, vChain, fIn, vAsg, gvTup, gvCons, gvName, gvNil, LIM, scal, flatV, kind_int, txt, fFmt, log_ok h]
    rfl
  | str z h =>
    have h1 := words_len h
    have h2 : z.length ≤ 10000000 := by omega
    have h3 : (Str.empty ++ Str.ofString "'").length ≤ 10000000 := by decide +kernel
    have h4 : (Str.empty ++ Str.ofString "'" ++ z).length ≤ 10000000 := by
      rw [PySem.strLen_append]
      have : (Str.empty ++ Str.ofString "'").length = 1 := by decide +kernel
      omega
    have h5 : Str.empty ++ Str.ofString "'" = Str.ofString "'" := by decide +kernel
    simp +decide [f_show, v_show, fnOf, begin_, fin, outs, vSeq, vIfS, vIf, vB, vOp, vCons, vVal, vSlot, vVar, vC, vNil, vFin, resAll, Arg.res, vIce, D.ice, ices, D.fz, fzs, vSet, vRet, vRetV, vNext, vExpr, vCall, vFinC, once, owned, putB, fIxA, ixA, ixD, D.seq?, atI0, atI1, fGt, fGe, fLe, fLt, fCmp, fI2, fI, fMod, fIc, cMod, cDiv, fDiv, fSub, fPow, cPow, fAdd, fMul, vStore, vFinS, ixN, fLst, fTup, fLen, lenD, fAbs, fMax2, fMin2, fInt, fNeg, fIsN, D.isN, fIsi, D.ty?, fEq, eqD, D.sv, vNot, vAnd, vOr, vNotT, vAndT, vOrT, vChain, fIn, vAsg, gvTup, gvCons, gvName, gvNil, LIM, scal, flatV, kind_str, txt, fFmt, vJoin, vJcons, vJnil, h2, h3, h4]
    rw [h5]
theorem text_ok {x : D} (hx : Val x) : f_text [x] = .ok ([x], .str (txt x)) := by
  cases hx with
  | non => simp +decide [f_text, v_text, fnOf, begin_, fin, outs, vSeq, vIfS, vIf, vB, vOp, vCons, vVal, vSlot, vVar, vC, vNil, vFin, resAll, Arg.res, vIce, D.ice, ices, D.fz, fzs, vSet, vRet, vRetV, vNext, vExpr, vCall, vFinC, once, owned, putB, fIxA, ixA, ixD, D.seq?, atI0, atI1, fGt, fGe, fLe, fLt, fCmp, fI2, fI, fMod, fIc, cMod, cDiv, fDiv, fSub, fPow, cPow, fAdd, fMul, vStore, vFinS, ixN, fLst, fTup, fLen, lenD, fAbs, fMax2, fMin2, fInt, fNeg, fIsN, D.isN, fIsi, D.ty?, fEq, eqD, D.sv, vNot, vAnd, vOr, vNotT, vAndT, vOrT, vChain, fIn, vAsg, gvTup, gvCons, gvName, gvNil, LIM, scal, flatV, txt, isa, isaT]
  | bl b => cases b <;> simp +decide [f_text, v_text, fnOf, begin_, fin, outs, vSeq, vIfS, vIf, vB, vOp, vCons, vVal, vSlot, vVar, vC, vNil, vFin, resAll, Arg.res, vIce, D.ice, ices, D.fz, fzs, vSet, vRet, vRetV, vNext, vExpr, vCall, vFinC, once, owned, putB, fIxA, ixA, ixD, D.seq?, atI0, atI1, fGt, fGe, fLe, fLt, fCmp, fI2, fI, fMod, fIc, cMod, cDiv, fDiv, fSub, fPow, cPow, fAdd, fMul, vStore, vFinS, ixN, fLst, fTup, fLen, lenD, fAbs, fMax2, fMin2, fInt, fNeg, fIsN, D.isN, fIsi, D.ty?, fEq, eqD, D.sv, vNot, vAnd, vOr, vNotT, vAndT, vOrT, vChain, fIn, vAsg, gvTup, gvCons, gvName, gvNil, LIM, scal, flatV, txt, isa, isaT, atI, ixN]
  | int i h =>
    simp +decide [f_text, v_text, fnOf, begin_, fin, outs, vSeq, vIfS, vIf, vB, vOp, vCons, vVal, vSlot, vVar, vC, vNil, vFin, resAll, Arg.res, vIce, D.ice, ices, D.fz, fzs, vSet, vRet, vRetV, vNext, vExpr, vCall, vFinC, once, owned, putB, fIxA, ixA, ixD, D.seq?, atI0, atI1, fGt, fGe, fLe, fLt, fCmp, fI2, fI, fMod, fIc, cMod, cDiv, fDiv, fSub, fPow, cPow, fAdd, fMul, vStore, vFinS, ixN, fLst, fTup, fLen, lenD, fAbs, fMax2, fMin2, fInt, fNeg, fIsN, D.isN, fIsi, D.ty?, fEq, eqD, D.sv, vNot, vAnd, vOr, vNotT, vAndT, vOrT, vChain, fIn, vAsg, gvTup, gvCons, gvName, gvNil, LIM, scal, flatV, txt, isa, isaT, fStr, log_ok h]
    rfl
  | str z h =>
    have h1 := words_len h
    have h2 : (Str.ofString "'").length + z.length ≤ 10000000 := by
      have : (Str.ofString "'").length = 1 := by decide +kernel
      omega
    simp +decide [f_text, v_text, fnOf, begin_, fin, outs, vSeq, vIfS, vIf, vB, vOp, vCons, vVal, vSlot, vVar, vC, vNil, vFin, resAll, Arg.res, vIce, D.ice, ices, D.fz, fzs, vSet, vRet, vRetV, vNext, vExpr, vCall, vFinC, once, owned, putB, fIxA, ixA, ixD, D.seq?, atI0, atI1, fGt, fGe, fLe, fLt, fCmp, fI2, fI, fMod, fIc, cMod, cDiv, fDiv, fSub, fPow, cPow, fAdd, fMul, vStore, vFinS, ixN, fLst, fTup, fLen, lenD, fAbs, fMax2, fMin2, fInt, fNeg, fIsN, D.isN, fIsi, D.ty?, fEq, eqD, D.sv, vNot, vAnd, vOr, vNotT, vAndT, vOrT, vChain, fIn, vAsg, gvTup, gvCons, gvName, gvNil, LIM, scal, flatV, txt, isa, isaT, h2]
/-! ### repr -/
def okP (p : PyData) : Bool := p.showable && (!p.hasDict && (decide (p.depth ≤ 60) && decide (p.shown.length ≤ LIM)))
theorem same_ok {x y : D} {p q : PyData} (hx : x.toP = some p) (hy : y.toP = some q) (h1 : okP p = true) (h2 : okP q = true) : f_same [x, y] = .ok ([x, y], .bl (decide (p.shown = q.shown))) := by
  unfold okP at h1 h2
  cases hfx : x.fz <;> cases hfy : y.fz <;> simp [f_same, v_same, fnOf, begin_, fin, outs, vRet, vOp, vCons, vVal, vSlot, vNil, vFin, resAll, Arg.res, fRepr, hx, hy, h1, h2, hfx, hfy, fEq, eqD, D.sv, scal]
theorem pd_of {x : D} (h : Val x) : x.toP = some x.pd := by cases h <;> rfl
theorem val_okP {x : D} (h : Val x) : okP x.pd = true := by
  cases h with
  | non => decide +kernel
  | bl b => cases b <;> decide +kernel
  | int i h =>
    have l := iS_len (i := i) (k := 19) (by decide) (by omega)
    have e : (PyData.int i).shown = iS i := PyData.shown_int i
    show okP (PyData.int i) = true
    unfold okP
    rw [e]
    have : (iS i).length ≤ LIM := by show _ ≤ 10000000; omega
    simp [PyData.showable, PyData.hasDict, PyData.depth, this, log_ok h]
  | str z h =>
    have : (words.all fun z => okP (.str z)) = true := by decide +kernel
    exact List.all_eq_true.mp this z h
theorem val_shown {x y : D} (hx : Val x) (hy : Val y) : decide (x.pd.shown = y.pd.shown) = sm x y := by
  have sn : (PyData.none).shown = Str.ofString "None" := PyData.shown_none
  have si : ∀ i, (PyData.int i).shown = iS i := PyData.shown_int
  have wne : ∀ z ∈ words, ∀ i, iS i ≠ (PyData.str z).shown := fun z hz i => by
    have : (words.all fun z => (match (PyData.str z).shown.cps.toList with | c :: _ => decide (c = 39) | [] => false)) = true := by decide +kernel
    have t := List.all_eq_true.mp this z hz
    refine iS_ne (fun c hc => ?_) fun e => ?_
    · cases h : (PyData.str z).shown.cps.toList with
      | nil => rw [h] at hc; cases hc
      | cons c' r =>
        rw [h] at hc t
        cases hc
        have := of_decide_eq_true t
        omega
    · rw [e] at t; cases t
  cases hx with
  | non =>
    cases hy with
    | non => simp [sm]
    | bl b => cases b <;> decide +kernel
    | int i h =>
      show decide ((PyData.none).shown = (PyData.int i).shown) = false
      rw [sn, si]
      exact decide_eq_false fun e => iS_ne (z := Str.ofString "None") (by decide +kernel) (by decide +kernel) e.symm
    | str z h =>
      have : (words.all fun z => !decide ((PyData.none).shown = (PyData.str z).shown)) = true := by decide +kernel
      exact Bool.not_eq_true' _ |>.mp (List.all_eq_true.mp this z h)
  | bl a =>
    cases hy with
    | non => cases a <;> decide +kernel
    | bl b => cases a <;> cases b <;> decide +kernel
    | int i h =>
      show decide ((PyData.bool a).shown = (PyData.int i).shown) = false
      rw [si]
      refine decide_eq_false fun e => ?_
      cases a
      · exact iS_ne (z := (PyData.bool false).shown) (by decide +kernel) (by decide +kernel) e.symm
      · exact iS_ne (z := (PyData.bool true).shown) (by decide +kernel) (by decide +kernel) e.symm
    | str z h =>
      have : (words.all fun z => !decide ((PyData.bool false).shown = (PyData.str z).shown) && !decide ((PyData.bool true).shown = (PyData.str z).shown)) = true := by decide +kernel
      have t := List.all_eq_true.mp this z h
      rw [Bool.and_eq_true] at t
      cases a
      · exact Bool.not_eq_true' _ |>.mp t.1
      · exact Bool.not_eq_true' _ |>.mp t.2
  | int i h =>
    cases hy with
    | non =>
      show decide ((PyData.int i).shown = (PyData.none).shown) = false
      rw [sn, si]
      exact decide_eq_false (iS_ne (z := Str.ofString "None") (by decide +kernel) (by decide +kernel))
    | bl a =>
      show decide ((PyData.int i).shown = (PyData.bool a).shown) = false
      rw [si]
      refine decide_eq_false ?_
      cases a
      · exact iS_ne (z := (PyData.bool false).shown) (by decide +kernel) (by decide +kernel)
      · exact iS_ne (z := (PyData.bool true).shown) (by decide +kernel) (by decide +kernel)
    | int j h' =>
      show decide ((PyData.int i).shown = (PyData.int j).shown) = decide (i = j)
      rw [si, si]
      exact decide_eq_decide.mpr iS_inj
    | str z h' =>
      show decide ((PyData.int i).shown = (PyData.str z).shown) = false
      rw [si]
      exact decide_eq_false (wne z h' i)
  | str z h =>
    cases hy with
    | non =>
      have : (words.all fun z => !decide ((PyData.str z).shown = (PyData.none).shown)) = true := by decide +kernel
      exact Bool.not_eq_true' _ |>.mp (List.all_eq_true.mp this z h)
    | bl a =>
      have : (words.all fun z => !decide ((PyData.str z).shown = (PyData.bool false).shown) && !decide ((PyData.str z).shown = (PyData.bool true).shown)) = true := by decide +kernel
      have t := List.all_eq_true.mp this z h
      rw [Bool.and_eq_true] at t
      cases a
      · exact Bool.not_eq_true' _ |>.mp t.1
      · exact Bool.not_eq_true' _ |>.mp t.2
    | int j h' =>
      show decide ((PyData.str z).shown = (PyData.int j).shown) = false
      rw [si]
      exact decide_eq_false fun e => wne z h j e.symm
    | str y h' =>
      have : (words.all fun z => words.all fun y => decide (decide ((PyData.str z).shown = (PyData.str y).shown) = decide (z = y))) = true := by decide +kernel
      exact of_decide_eq_true (List.all_eq_true.mp (List.all_eq_true.mp this z h) y h')
theorem same_val {x y : D} (hx : Val x) (hy : Val y) : f_same [x, y] = .ok ([x, y], .bl (sm x y)) := by
  rw [same_ok (pd_of hx) (pd_of hy) (val_okP hx) (val_okP hy), val_shown hx hy]
end Law

set_option Elab.async false
set_option linter.all false
set_option maxRecDepth 100000
set_option maxHeartbeats 1000000
/-! EVj: loops, by values. -/
namespace EV
open PySem L2
theorem vLoop_run {chk : Env → Bool} {step : D → VS} {I : List D → Env → Prop} : ∀ (xs pre : List D) (ρ : Env), I pre ρ → (∀ d ∈ xs, ∀ p ρ, I p ρ → ∃ ρ', step d ρ = .ok (ρ', .nx) ∧ I (p ++ [d]) ρ' ∧ chk ρ' = true) → ∃ ρ', vLoop chk step xs ρ = .ok (ρ', .nx) ∧ I (pre ++ xs) ρ'
  | [], pre, ρ, h, _ => ⟨ρ, rfl, by rw [List.append_nil]; exact h⟩
  | d :: ds, pre, ρ, h, k => by
    obtain ⟨ρ1, e, h1, hc⟩ := k d List.mem_cons_self pre ρ h
    obtain ⟨ρ2, e2, h2⟩ := vLoop_run ds (pre ++ [d]) ρ1 h1 fun d m => k d (List.mem_cons_of_mem _ m)
    refine ⟨ρ2, ?_, by rw [List.append_assoc] at h2; exact h2⟩
    unfold vLoop
    rw [e]
    simp only [Out.bind_ok, hc, if_true]
    exact e2
theorem cLoop_run {chk : Env → Bool} {turn : D → Env → Out (Env × Option D)} {I : List D → List D → Env → Prop} : ∀ (xs pre acc : List D) (ρ : Env), I pre acc ρ → acc.length + xs.length ≤ LIM →
    (∀ d ∈ xs, ∀ p acc ρ, I p acc ρ → ∃ ρ' y, turn d ρ = .ok (ρ', y) ∧ I (p ++ [d]) (acc ++ y.toList) ρ' ∧ chk ρ' = true) → ∃ ρ' ys, cLoop chk turn xs acc ρ = .ok (ρ', ys) ∧ I (pre ++ xs) ys ρ'
  | [], pre, acc, ρ, h, _, _ => ⟨ρ, acc, rfl, by rw [List.append_nil]; exact h⟩
  | d :: ds, pre, acc, ρ, h, hl, k => by
    obtain ⟨ρ1, y, e, h1, hc⟩ := k d List.mem_cons_self pre acc ρ h
    have hy : y.toList.length ≤ 1 := by cases y <;> simp
    rw [List.length_cons] at hl
    obtain ⟨ρ2, ys, e2, h2⟩ := cLoop_run ds (pre ++ [d]) (acc ++ y.toList) ρ1 h1 (by rw [List.length_append]; omega) fun d m => k d (List.mem_cons_of_mem _ m)
    refine ⟨ρ2, ys, ?_, by rw [List.append_assoc] at h2; exact h2⟩
    unfold cLoop
    have : decide (acc.length < LIM) = true := decide_eq_true (by omega)
    simp only [e, hc, this, Bool.and_self, if_true]
    exact e2
/-- nothing but the items -/
theorem cLoop_pure {chk : Env → Bool} {turn : D → Env → Out (Env × Option D)} {ρ : Env} {y : D → Option D} (xs : List D) (hl : xs.length ≤ LIM) (hc : chk ρ = true) (h : ∀ d ∈ xs, turn d ρ = .ok (ρ, y d)) : cLoop chk turn xs [] ρ = .ok (ρ, xs.flatMap fun d => (y d).toList) := by
  obtain ⟨ρ', ys, e, rfl, rfl⟩ := cLoop_run (chk := chk) (turn := turn) (I := fun p acc ρ' => acc = p.flatMap (fun d => (y d).toList) ∧ ρ' = ρ) xs [] [] ρ ⟨rfl, rfl⟩ (by simpa using hl) fun d m p acc ρ1 hI => by
    obtain ⟨rfl, rfl⟩ := hI
    exact ⟨_, _, h d m, ⟨by rw [List.flatMap_append]; simp, rfl⟩, hc⟩
  exact e
theorem flatMap_some {α β : Type} {f : α → β} : ∀ {l : List α}, l.flatMap (fun d => (some (f d)).toList) = l.map f
  | [] => rfl
  | x :: l => by rw [List.flatMap_cons, flatMap_some]; rfl
/-- the same of dicts -/
theorem dLoop_run {chk : Env → Bool} {turn : D → Env → Out (Env × Option (List Key × D))} {ρ : Env} {k : D → List Key} {y : D → D} : ∀ (xs : List D) (acc : List (List Key × D)), acc.length + xs.length ≤ LIM → chk ρ = true → (∀ d ∈ xs, turn d ρ = .ok (ρ, some (k d, y d))) →
    dLoop chk turn xs acc ρ = .ok (ρ, xs.foldl (fun acc d => putD acc (k d) (y d)) acc)
  | [], acc, _, _, _ => rfl
  | d :: ds, acc, hl, hc, h => by
    rw [List.length_cons] at hl
    unfold dLoop
    have : decide (acc.length < LIM) = true := decide_eq_true (by omega)
    rw [h d List.mem_cons_self]
    simp only [hc, this, Bool.and_self, if_true]
    rw [List.foldl_cons]
    refine dLoop_run ds _ ?_ hc fun d m => h d (List.mem_cons_of_mem _ m)
    have : (putD acc (k d) (y d)).length ≤ acc.length + 1 := by
      unfold putD
      split
      · rw [List.length_map]; omega
      · rw [List.length_append]; exact Nat.le_refl _
    omega
theorem blsD_map {α : Type} {f : α → Bool} : ∀ {l : List α}, blsD (l.map fun c => D.bl (f c)) = some (l.map f)
  | [] => rfl
  | c :: l => by rw [List.map_cons, blsD, blsD_map]; rfl
end EV
namespace EV
open PySem L2
/-- a loop, by the place -/
theorem vLoop_at {chk : Env → Bool} {step : D → VS} {I : List D → Env → Prop} {T : List D} : ∀ (xs pre : List D) (ρ : Env), pre ++ xs = T → I pre ρ → (∀ p d q ρ, T = p ++ d :: q → I p ρ → ∃ ρ', step d ρ = .ok (ρ', .nx) ∧ I (p ++ [d]) ρ' ∧ chk ρ' = true) → ∃ ρ', vLoop chk step xs ρ = .ok (ρ', .nx) ∧ I T ρ'
  | [], pre, ρ, e, h, _ => ⟨ρ, rfl, by rw [List.append_nil] at e; rw [← e]; exact h⟩
  | d :: ds, pre, ρ, e, h, k => by
    obtain ⟨ρ1, e1, h1, hc⟩ := k pre d ds ρ e.symm h
    obtain ⟨ρ2, e2, h2⟩ := vLoop_at ds (pre ++ [d]) ρ1 (by rw [← e, List.append_assoc]; rfl) h1 k
    refine ⟨ρ2, ?_, h2⟩
    unfold vLoop
    rw [e1]
    simp only [Out.bind_ok, hc, if_true]
    exact e2
theorem rangeD_len {lo : Int} {n : Nat} : (rangeD lo n).length = n := by unfold rangeD; rw [List.length_map, List.length_range]
theorem rangeD_mem {lo : Int} {n : Nat} {d : D} (h : d ∈ rangeD lo n) : ∃ i : Nat, i < n ∧ d = .int (lo + i) := by
  obtain ⟨i, hi, rfl⟩ := List.mem_map.mp h
  exact ⟨i, List.mem_range.mp hi, rfl⟩
end EV
namespace EV
open PySem L2
mutual
theorem D.ice_id : ∀ {d : D}, d.fz = true → d.ice = d
  | .non, _ => rfl
  | .bl _, _ => rfl
  | .int _, _ => rfl
  | .str _, _ => rfl
  | .ty _, _ => rfl
  | .ref _, _ => rfl
  | .scr _, _ => rfl
  | .tup k xs, h => by rw [D.fz] at h; rw [D.ice, ices_id h]
  | .lst o xs, h => by
    rw [D.fz, Bool.and_eq_true] at h
    rw [D.ice, ices_id h.2]
    cases o
    · rfl
    · simp at h
  | .dk o xs, h => by
    rw [D.fz, Bool.and_eq_true] at h
    rw [D.ice, icek_id h.2]
    cases o
    · rfl
    · simp at h
  | .dt o xs, h => by
    rw [D.fz, Bool.and_eq_true] at h
    rw [D.ice, icet_id h.2]
    cases o
    · rfl
    · simp at h
  | .obj o C xs, h => by
    rw [D.fz, Bool.and_eq_true] at h
    rw [D.ice, icef_id h.2]
    cases o
    · rfl
    · simp at h
theorem ices_id : ∀ {ds : List D}, fzs ds = true → ices ds = ds
  | [], _ => rfl
  | d :: ds, h => by
    rw [fzs, Bool.and_eq_true] at h
    rw [ices, D.ice_id h.1, ices_id h.2]
theorem icek_id : ∀ {ds : List (Key × D)}, fzk ds = true → icek ds = ds
  | [], _ => rfl
  | (k, d) :: ds, h => by
    rw [fzk, Bool.and_eq_true] at h
    rw [icek, D.ice_id h.1, icek_id h.2]
theorem icet_id : ∀ {ds : List (List Key × D)}, fzt ds = true → icet ds = ds
  | [], _ => rfl
  | (k, d) :: ds, h => by
    rw [fzt, Bool.and_eq_true] at h
    rw [icet, D.ice_id h.1, icet_id h.2]
theorem icef_id : ∀ {ds : List (Str × D)}, fzf ds = true → icef ds = ds
  | [], _ => rfl
  | (k, d) :: ds, h => by
    rw [fzf, Bool.and_eq_true] at h
    rw [icef, D.ice_id h.1, icef_id h.2]
end
end EV
namespace EV
open PySem L2
theorem smallI_nat {n : Nat} (h : n ≤ 1000000000) : smallI (n : Int) = true := by
  unfold smallI
  rw [Bool.and_eq_true, decide_eq_true_eq, decide_eq_true_eq]
  have e : (2 : Int) ^ 62 = 4611686018427387904 := by decide
  rw [e]
  omega
theorem rng1_nat {n : Nat} (h : n ≤ 1000000000) : rng1 [.int (n : Int)] = some (rangeD 0 n) := by
  show (if smallI (n : Int) = true then some (rangeD 0 (n : Int).toNat) else none) = _
  rw [if_pos (smallI_nat h)]
  rfl
end EV
namespace EV
open PySem L2
theorem fnOf_rt {n N : Nat} {W : List Nat} {F : VS} {ds ps : List D} {ρ' : Env} {r : D} (hl : ds.length = n) (h : F (begin_ n N ds) = .ok (ρ', .rt r)) (ho : outs W ρ' 0 ds = some ps) : fnOf n N W F ds = .ok (ps, r) := by
  unfold fnOf fin
  rw [if_pos hl, h]
  dsimp only
  rw [ho]
theorem vSeq_nx {F G : VS} {ρ ρ' : Env} (h : F ρ = .ok (ρ', .nx)) : vSeq F G ρ = G ρ' := by
  unfold vSeq
  rw [h]
  rfl
theorem vSeq_rt {F G : VS} {ρ ρ' : Env} {r : D} (h : F ρ = .ok (ρ', .rt r)) : vSeq F G ρ = .ok (ρ', .rt r) := by
  unfold vSeq
  rw [h]
  rfl
theorem vFor_eq {W : List Nat} {I : VI} {G : VG} {F : VS} {ρ ρ1 : Env} {xs : List D} {dep : Dep} (h : I ρ = .ok (ρ1, xs, dep)) (hd : depOk dep W = true) : vFor W I G F ρ = vLoop (chkO dep) (vTurn G F) xs ρ1 := by
  unfold vFor
  rw [h]
  simp only [Out.bind_ok, hd, if_true]
theorem vLc_eq {vs : List Nat} {I : VI} {G : VG} {T : VT} {F : VE} {ρ ρ1 ρ2 : Env} {xs ys : List D} {dep : Dep} (h : I ρ = .ok (ρ1, xs, dep)) (h1 : vsOk ρ1 vs = true) (h2 : depOk dep vs = true) (h3 : cLoop (chkO dep) (cTurn vs G T F) xs [] (wipeE ρ1 vs) = .ok (ρ2, ys)) : vLc vs I G T F ρ = .ok (restE ρ1 ρ2 vs, .lst true ys) := by
  unfold vLc
  rw [h]
  simp only [Out.bind_ok, h1, h2, Bool.and_self, if_true, h3, lcFin]
theorem vSet_eq {i : Nat} {F : VE} {ρ ρ1 : Env} {d : D} (h : F ρ = .ok (ρ1, d)) (hi : i < ρ1.length) : vSet i F ρ = .ok (ρ1.set i (some d), .nx) := by
  unfold vSet
  rw [h]
  simp only [Out.bind_ok, hi, if_true]
theorem vIfS_t {T : VT} {F G : VS} {ρ ρ1 : Env} (h : T ρ = .ok (ρ1, true)) : vIfS T F G ρ = F ρ1 := by
  unfold vIfS
  rw [h]
  rfl
theorem vIfS_f {T : VT} {F G : VS} {ρ ρ1 : Env} (h : T ρ = .ok (ρ1, false)) : vIfS T F G ρ = G ρ1 := by
  unfold vIfS
  rw [h]
  rfl
theorem vRet_eq {F : VE} {ρ ρ1 : Env} {d : D} (h : F ρ = .ok (ρ1, d)) : vRet F ρ = .ok (ρ1, .rt d) := by
  unfold vRet
  rw [h]
  rfl
theorem vCall_eq {f : FnV} {A : VL} {ρ ρ1 : Env} {as : List Arg} {ds ds' : List D} {r : D} (h : A ρ = .ok (ρ1, as)) (h1 : resAll ρ1 as = some ds) (h2 : once ρ1 as = true) (h3 : f ds = .ok (ds', r)) (h4 : ds'.length = as.length) : vCall f A ρ = .ok (putB ρ1 ρ1 as (ds'.map some), r) := by
  unfold vCall vFinC
  rw [h]
  simp only [Out.bind_ok, h1, h2, h3, h4, if_true]
end EV
namespace EV
open PySem L2
theorem vOpI_eq {f : List D → Option (List D)} {A : VL} {ρ ρ1 : Env} {as : List Arg} {ds xs : List D} (h : A ρ = .ok (ρ1, as)) (h1 : resAll ρ1 as = some ds) (h2 : f ds = some xs) : vOpI f A ρ = .ok (ρ1, xs, none) := by
  unfold vOpI
  rw [h, Out.bind_ok]
  dsimp only
  rw [h1, Option.bind_some, h2]
theorem vOp_eq {f : List D → Option D} {A : VL} {ρ ρ1 : Env} {as : List Arg} {ds : List D} {d : D} (h : A ρ = .ok (ρ1, as)) (h1 : resAll ρ1 as = some ds) (h2 : f ds = some d) : vOp f A ρ = .ok (ρ1, d) := by
  unfold vOp vFin
  rw [h, Out.bind_ok]
  dsimp only
  rw [h1, Option.bind_some, h2]
end EV
namespace EV
open PySem L2
theorem vCons_eq {F : VA} {G : VL} {ρ ρ1 ρ2 : Env} {a : Arg} {as : List Arg} (h1 : F ρ = .ok (ρ1, a)) (h2 : G ρ1 = .ok (ρ2, as)) : vCons F G ρ = .ok (ρ2, a :: as) := by
  unfold vCons
  rw [h1, Out.bind_ok]
  dsimp only
  rw [h2]
  rfl
theorem vVal_eq {F : VE} {ρ ρ1 : Env} {d : D} (h : F ρ = .ok (ρ1, d)) : vVal F ρ = .ok (ρ1, .val d) := by
  unfold vVal
  rw [h]
  rfl
theorem vKeep_eq {F : VE} {ρ ρ1 : Env} {d : D} (h : F ρ = .ok (ρ1, d)) : vKeep F ρ = .ok (ρ1, .val d.ice) := vVal_eq (by unfold vIce; rw [h]; rfl)
theorem vSlot_eq {i : Nat} {ρ : Env} {d : D} (h : (ρ[i]?).join = some d) : vSlot i ρ = .ok (ρ, .slot i) := by
  unfold vSlot
  rw [h]
theorem vB_eq {F : VE} {ρ ρ1 : Env} {b : Bool} (h : F ρ = .ok (ρ1, .bl b)) : vB F ρ = .ok (ρ1, b) := by
  unfold vB
  rw [h]
  rfl
theorem vNotT_eq {F : VT} {ρ ρ1 : Env} {b : Bool} (h : F ρ = .ok (ρ1, b)) : vNotT F ρ = .ok (ρ1, !b) := by
  unfold vNotT
  rw [h]
  rfl
theorem vItems_slot {i : Nat} {ρ : Env} {d : D} {xs : List D} (h : (ρ[i]?).join = some d) (h1 : d.items? = some xs) (h2 : fzs xs = true) : vItems (vSlot i) ρ = .ok (ρ, xs, if d.fz then none else some (i, d)) := by
  unfold vItems
  rw [vSlot_eq h, Out.bind_ok]
  unfold itemsA
  dsimp only
  rw [h]
  dsimp only
  rw [h1]
  dsimp only
  rw [if_pos h2]
theorem vItems_val {F : VE} {ρ ρ1 : Env} {d : D} {xs : List D} (h : F ρ = .ok (ρ1, d)) (h1 : d.items? = some xs) (h2 : fzs xs = true) : vItems (vVal F) ρ = .ok (ρ1, xs, none) := by
  unfold vItems
  rw [vVal_eq h, Out.bind_ok]
  unfold itemsA
  dsimp only
  rw [h1]
  dsimp only
  rw [if_pos h2]
end EV

set_option Elab.async false
set_option linter.all false
set_option maxRecDepth 100000
set_option maxHeartbeats 2000000
/-! K2d: names; values; orders. -/
namespace Law
open PySem L2 EV
abbrev lets : List Nat := (Str.ofString "abcdefghijklmnopqrstuvwxyz").cps.toList
abbrev figs : List Nat := (Str.ofString "0123456789").cps.toList
def isL (c : Nat) : Bool := decide (c ∈ lets) || decide (c ∈ figs)
def nmL : List Nat → Bool
  | [] => false
  | c :: r => decide ((c :: r).length ≤ 6) && (decide (c ∈ lets) && (c :: r).all isL)
def nm (z : Str) : Bool := nmL z.cps.toList
theorem lc_isname {z : Str} (hz : z.cps.size ≤ LIM) : cLoop (fun _ => true) (cTurn [1] (gvName 1) vTrue (vOr (vOp (fIn false) (v2 (vSlot 1) (vVal (vC (.str "abcdefghijklmnopqrstuvwxyz"))))) (vOp (fIn false) (v2 (vSlot 1) (vVal (vC (.str "0123456789"))))))) (chars z) [] [some (.str z), none] =
    .ok ([some (.str z), none], z.cps.toList.map fun c => D.bl (isL c)) := by
  rw [cLoop_pure (y := fun d => match d with | .str x => some (.bl (match x.cps.toList with | [c] => isL c | _ => false)) | _ => none) _ (by unfold chars; simpa using hz) rfl fun d m => ?_]
  · unfold chars
    rw [List.flatMap_map]
    exact congrArg (fun l => Out.ok (_, l)) flatMap_some
  · obtain ⟨c, _, rfl⟩ := List.mem_map.mp m
    by_cases h : c ∈ lets
    · simp [cTurn, fnOf, begin_, fin, outs, vSeq, vIfS, vIf, vB, vOp, vCons, vVal, vSlot, vVar, vC, vNil, vFin, resAll, Arg.res, vIce, D.ice, ices, D.fz, fzs, vSet, vRet, vRetV, vNext, vExpr, vCall, vFinC, once, owned, putB, fIxA, ixA, ixD, D.seq?, atI0, atI1, fGt, fGe, fLe, fLt, fCmp, fI2, fI, fMod, fIc, cMod, cDiv, fDiv, fSub, fPow, cPow, fAdd, fMul, vStore, vFinS, ixN, fLst, fTup, fLen, lenD, fAbs, fMax2, fMin2, fInt, fNeg, fIsN, D.isN, fIsi, D.ty?, fEq, eqD, D.sv, vNot, vAnd, vOr, vNotT, vAndT, vOrT, vChain, fIn, vAsg, gvTup, gvCons, gvName, gvNil, LIM, scal, flatV, vItems, itemsA, D.items?, vLc, lcFin, restE, wipeE, vsOk, depOk, chkO, chars_fz, fAll, vPar, two, fList, vFor, vOpI, vTurn, vMeth, vFinM, mPopAt, mAppend, Out.bind_ok, vTrue, inD, isL, h]
    · simp [cTurn, fnOf, begin_, fin, outs, vSeq, vIfS, vIf, vB, vOp, vCons, vVal, vSlot, vVar, vC, vNil, vFin, resAll, Arg.res, vIce, D.ice, ices, D.fz, fzs, vSet, vRet, vRetV, vNext, vExpr, vCall, vFinC, once, owned, putB, fIxA, ixA, ixD, D.seq?, atI0, atI1, fGt, fGe, fLe, fLt, fCmp, fI2, fI, fMod, fIc, cMod, cDiv, fDiv, fSub, fPow, cPow, fAdd, fMul, vStore, vFinS, ixN, fLst, fTup, fLen, lenD, fAbs, fMax2, fMin2, fInt, fNeg, fIsN, D.isN, fIsi, D.ty?, fEq, eqD, D.sv, vNot, vAnd, vOr, vNotT, vAndT, vOrT, vChain, fIn, vAsg, gvTup, gvCons, gvName, gvNil, LIM, scal, flatV, vItems, itemsA, D.items?, vLc, lcFin, restE, wipeE, vsOk, depOk, chkO, chars_fz, fAll, vPar, two, fList, vFor, vOpI, vTurn, vMeth, vFinM, mPopAt, mAppend, Out.bind_ok, vTrue, inD, isL, h]
theorem isname_str {z : Str} (hz : z.length ≤ 1000) : f_isname [.str z] = .ok ([.str z], .bl (nm z)) := by
  obtain ⟨cps⟩ := z
  have hl : (⟨cps⟩ : Str).length = cps.toList.length := by show cps.size = _; simp
  have hz' : cps.toList.length ≤ 1000 := by rw [← hl]; exact hz
  have hc := lc_isname (z := ⟨cps⟩) (by show cps.size ≤ 10000000; have : cps.size = cps.toList.length := by simp
                                        omega)
  dsimp only at hc
  have hL : cps.toList.length ≤ 10000000 := by omega
  show _ = Out.ok (_, D.bl (nmL cps.toList))
  cases h : cps.toList with
  | nil =>
    rw [h] at hl
    simp +decide [f_isname, v_isname, fnOf, begin_, fin, outs, vSeq, vIfS, vIf, vB, vOp, vCons, vVal, vSlot, vVar, vC, vNil, vFin, resAll, Arg.res, vIce, D.ice, ices, D.fz, fzs, vSet, vRet, vRetV, vNext, vExpr, vCall, vFinC, once, owned, putB, fIxA, ixA, ixD, D.seq?, atI0, atI1, fGt, fGe, fLe, fLt, fCmp, fI2, fI, fMod, fIc, cMod, cDiv, fDiv, fSub, fPow, cPow, fAdd, fMul, vStore, vFinS, ixN, fLst, fTup, fLen, lenD, fAbs, fMax2, fMin2, fInt, fNeg, fIsN, D.isN, fIsi, D.ty?, fEq, eqD, D.sv, vNot, vAnd, vOr, vNotT, vAndT, vOrT, vChain, fIn, vAsg, gvTup, gvCons, gvName, gvNil, LIM, scal, flatV, vItems, itemsA, D.items?, vLc, lcFin, restE, wipeE, vsOk, depOk, chkO, chars_fz, fAll, vPar, two, fList, vFor, vOpI, vTurn, vMeth, vFinM, mPopAt, mAppend, Out.bind_ok, hl, isa, isaT, nmL]
  | cons c r =>
    have ha : blsD (D.bl (isL c) :: r.map fun c => D.bl (isL c)) = some (isL c :: r.map isL) := blsD_map (l := c :: r)
    rw [h] at hl hL
    have hL' : r.length ≤ 9999999 := by simp at hL; omega
    have h1 : (1 : Int) ≤ ((r.length : Int) + 1) := by omega
    by_cases h6 : ((r.length : Int) + 1) ≤ 6
    · have h6' : r.length + 1 ≤ 6 := by omega
      by_cases hcl : c ∈ lets
      · simp +decide [f_isname, v_isname, fnOf, begin_, fin, outs, vSeq, vIfS, vIf, vB, vOp, vCons, vVal, vSlot, vVar, vC, vNil, vFin, resAll, Arg.res, vIce, D.ice, ices, D.fz, fzs, vSet, vRet, vRetV, vNext, vExpr, vCall, vFinC, once, owned, putB, fIxA, ixA, ixD, D.seq?, atI0, atI1, fGt, fGe, fLe, fLt, fCmp, fI2, fI, fMod, fIc, cMod, cDiv, fDiv, fSub, fPow, cPow, fAdd, fMul, vStore, vFinS, ixN, fLst, fTup, fLen, lenD, fAbs, fMax2, fMin2, fInt, fNeg, fIsN, D.isN, fIsi, D.ty?, fEq, eqD, D.sv, vNot, vAnd, vOr, vNotT, vAndT, vOrT, vChain, fIn, vAsg, gvTup, gvCons, gvName, gvNil, LIM, scal, flatV, vItems, itemsA, D.items?, vLc, lcFin, restE, wipeE, vsOk, depOk, chkO, chars_fz, fAll, vPar, two, fList, vFor, vOpI, vTurn, vMeth, vFinM, mPopAt, mAppend, Out.bind_ok, hl, isa, isaT, nmL, h1, h6, h6', h, inD, hcl, hc, ha, atI0, hL']
      · simp +decide [f_isname, v_isname, fnOf, begin_, fin, outs, vSeq, vIfS, vIf, vB, vOp, vCons, vVal, vSlot, vVar, vC, vNil, vFin, resAll, Arg.res, vIce, D.ice, ices, D.fz, fzs, vSet, vRet, vRetV, vNext, vExpr, vCall, vFinC, once, owned, putB, fIxA, ixA, ixD, D.seq?, atI0, atI1, fGt, fGe, fLe, fLt, fCmp, fI2, fI, fMod, fIc, cMod, cDiv, fDiv, fSub, fPow, cPow, fAdd, fMul, vStore, vFinS, ixN, fLst, fTup, fLen, lenD, fAbs, fMax2, fMin2, fInt, fNeg, fIsN, D.isN, fIsi, D.ty?, fEq, eqD, D.sv, vNot, vAnd, vOr, vNotT, vAndT, vOrT, vChain, fIn, vAsg, gvTup, gvCons, gvName, gvNil, LIM, scal, flatV, vItems, itemsA, D.items?, vLc, lcFin, restE, wipeE, vsOk, depOk, chkO, chars_fz, fAll, vPar, two, fList, vFor, vOpI, vTurn, vMeth, vFinM, mPopAt, mAppend, Out.bind_ok, hl, isa, isaT, nmL, h1, h6, h6', h, inD, hcl, atI0, hL']
    · have h6' : ¬ r.length + 1 ≤ 6 := by omega
      simp +decide [f_isname, v_isname, fnOf, begin_, fin, outs, vSeq, vIfS, vIf, vB, vOp, vCons, vVal, vSlot, vVar, vC, vNil, vFin, resAll, Arg.res, vIce, D.ice, ices, D.fz, fzs, vSet, vRet, vRetV, vNext, vExpr, vCall, vFinC, once, owned, putB, fIxA, ixA, ixD, D.seq?, atI0, atI1, fGt, fGe, fLe, fLt, fCmp, fI2, fI, fMod, fIc, cMod, cDiv, fDiv, fSub, fPow, cPow, fAdd, fMul, vStore, vFinS, ixN, fLst, fTup, fLen, lenD, fAbs, fMax2, fMin2, fInt, fNeg, fIsN, D.isN, fIsi, D.ty?, fEq, eqD, D.sv, vNot, vAnd, vOr, vNotT, vAndT, vOrT, vChain, fIn, vAsg, gvTup, gvCons, gvName, gvNil, LIM, scal, flatV, vItems, itemsA, D.items?, vLc, lcFin, restE, wipeE, vsOk, depOk, chkO, chars_fz, fAll, vPar, two, fList, vFor, vOpI, vTurn, vMeth, vFinM, mPopAt, mAppend, Out.bind_ok, hl, isa, isaT, nmL, h1, h6, h6', hL']
/-! ### the law's own test of names -/
theorem ones_eq {n : Nat} : eqD (.lst true (List.replicate n (.int 1))) (.lst true []) = some (decide (n = 0)) := by
  have t : ∀ n, toPs (List.replicate n (.int 1)) = some (List.replicate n (.int 1)) := fun n => by
    induction n with
    | zero => rfl
    | succ n ih => rw [List.replicate_succ, toPs, ih]; rfl
  have c : ∀ n, PyData.canLayAll0 (List.replicate n (.int 1)) = true := fun n => by
    induction n with
    | zero => simp [PyData.canLayAll0]
    | succ n ih => rw [List.replicate_succ, PyData.canLayAll0, ih]; simp [PyData.canLay0]
  have dp : ∀ n, PyData.depthAll (List.replicate n (.int 1)) = 0 := fun n => by
    induction n with
    | zero => simp [PyData.depthAll]
    | succ n ih => rw [List.replicate_succ, PyData.depthAll, ih]; simp [PyData.depth]
  cases n with
  | zero => simp +decide [eqD, D.sv, D.toP, toPs, SeqAt.shaped, PyData.canLay0, PyData.canLayAll0, PyData.depth, PyData.depthAll, PyData.eqv, PyData.eqvAll]
  | succ n =>
    have h1 : SeqAt.shaped (.list (List.replicate (n + 1) (.int 1))) = true := by
      unfold SeqAt.shaped
      rw [PyData.canLay0, c, PyData.depth, dp]
      decide
    have h2 : SeqAt.shaped (.list []) = true := by decide +kernel
    have h3 : PyData.eqv (.list (List.replicate (n + 1) (.int 1))) (.list []) = false := by
      rw [List.replicate_succ, PyData.eqv, PyData.eqvAll]
    unfold eqD
    simp only [D.sv, D.toP, t, Option.map_some, toPs, h1, h2, h3, Bool.and_self, if_true]
    simp
def others (l : List Nat) : Nat := (l.filter fun c => !isL c).length
theorem others_zero {l : List Nat} : decide (others l = 0) = l.all isL := by
  unfold others
  rw [Bool.eq_iff_iff, decide_eq_true_eq, List.length_eq_zero_iff, List.filter_eq_nil_iff, List.all_eq_true]
  simp
abbrev sgs : Str := "abcdefghijklmnopqrstuvwxyz0123456789"
theorem sgs_mem {c : Nat} : decide (c ∈ (Str.ofString "abcdefghijklmnopqrstuvwxyz0123456789").cps.toList) = isL c := by
  have e : (Str.ofString "abcdefghijklmnopqrstuvwxyz0123456789").cps.toList = lets ++ figs := by decide +kernel
  rw [e]
  unfold isL
  rw [Bool.eq_iff_iff, decide_eq_true_eq, List.mem_append, Bool.or_eq_true, decide_eq_true_eq, decide_eq_true_eq]
theorem lc_named {z : Str} (hz : z.cps.size ≤ LIM) : cLoop (fun _ => true) (cTurn [2] (gvName 2) (vB (vOp (fIn true) (v2 (vSlot 2) (vSlot 1)))) (vC (.int (1)))) (chars z) [] [some (.str z), some (.str "abcdefghijklmnopqrstuvwxyz0123456789"), none] =
    .ok ([some (.str z), some (.str "abcdefghijklmnopqrstuvwxyz0123456789"), none], List.replicate (others z.cps.toList) (.int 1)) := by
  rw [cLoop_pure (y := fun d => match d with | .str x => (match x.cps.toList with | [c] => if isL c then none else some (.int 1) | _ => none) | _ => none) _ (by unfold chars; simpa using hz) rfl fun d m => ?_]
  · unfold chars
    rw [List.flatMap_map]
    refine congrArg (fun l => Out.ok (_, l)) ?_
    generalize z.cps.toList = l
    induction l with
    | nil => rfl
    | cons c l ih =>
      rw [List.flatMap_cons, ih]
      unfold others
      rw [List.filter_cons]
      cases h : isL c <;> simp [h, List.replicate_succ]
  · obtain ⟨c, _, rfl⟩ := List.mem_map.mp m
    have e := sgs_mem (c := c)
    cases h : isL c
    · rw [h] at e
      simp at e
      simp [cTurn, fnOf, begin_, fin, outs, vSeq, vIfS, vIf, vB, vOp, vCons, vVal, vSlot, vVar, vC, vNil, vFin, resAll, Arg.res, vIce, D.ice, ices, D.fz, fzs, vSet, vRet, vRetV, vNext, vExpr, vCall, vFinC, once, owned, putB, fIxA, ixA, ixD, D.seq?, atI0, atI1, fGt, fGe, fLe, fLt, fCmp, fI2, fI, fMod, fIc, cMod, cDiv, fDiv, fSub, fPow, cPow, fAdd, fMul, vStore, vFinS, ixN, fLst, fTup, fLen, lenD, fAbs, fMax2, fMin2, fInt, fNeg, fIsN, D.isN, fIsi, D.ty?, fEq, eqD, D.sv, vNot, vAnd, vOr, vNotT, vAndT, vOrT, vChain, fIn, vAsg, gvTup, gvCons, gvName, gvNil, LIM, scal, flatV, vItems, itemsA, D.items?, vLc, lcFin, restE, wipeE, vsOk, depOk, chkO, chars_fz, fAll, vPar, two, fList, vFor, vOpI, vTurn, vMeth, vFinM, mPopAt, mAppend, Out.bind_ok, inD, h, e]
    · rw [h] at e
      simp at e
      simp [cTurn, fnOf, begin_, fin, outs, vSeq, vIfS, vIf, vB, vOp, vCons, vVal, vSlot, vVar, vC, vNil, vFin, resAll, Arg.res, vIce, D.ice, ices, D.fz, fzs, vSet, vRet, vRetV, vNext, vExpr, vCall, vFinC, once, owned, putB, fIxA, ixA, ixD, D.seq?, atI0, atI1, fGt, fGe, fLe, fLt, fCmp, fI2, fI, fMod, fIc, cMod, cDiv, fDiv, fSub, fPow, cPow, fAdd, fMul, vStore, vFinS, ixN, fLst, fTup, fLen, lenD, fAbs, fMax2, fMin2, fInt, fNeg, fIsN, D.isN, fIsi, D.ty?, fEq, eqD, D.sv, vNot, vAnd, vOr, vNotT, vAndT, vOrT, vChain, fIn, vAsg, gvTup, gvCons, gvName, gvNil, LIM, scal, flatV, vItems, itemsA, D.items?, vLc, lcFin, restE, wipeE, vsOk, depOk, chkO, chars_fz, fAll, vPar, two, fList, vFor, vOpI, vTurn, vMeth, vFinM, mPopAt, mAppend, Out.bind_ok, inD, h, e]
theorem cut26 : cutS (Str.ofString "abcdefghijklmnopqrstuvwxyz0123456789") none (some 26) = Str.ofString "abcdefghijklmnopqrstuvwxyz" := by decide +kernel
theorem named_str {z : Str} (hz : z.length ≤ 1000) : f_named [.str z] = .ok ([.str z], .bl (nm z)) := by
  obtain ⟨cps⟩ := z
  have hl : (⟨cps⟩ : Str).length = cps.toList.length := by show cps.size = _; simp
  have hz' : cps.toList.length ≤ 1000 := by rw [← hl]; exact hz
  have hc := lc_named (z := ⟨cps⟩) (by show cps.size ≤ 10000000; have : cps.size = cps.toList.length := by simp
                                       omega)
  dsimp only at hc
  have hL : cps.toList.length ≤ 10000000 := by omega
  have sl : (Str.ofString "abcdefghijklmnopqrstuvwxyz0123456789").length = 36 := by decide +kernel
  show _ = Out.ok (_, D.bl (nmL cps.toList))
  have oz := others_zero (l := cps.toList)
  have oe := ones_eq (n := others cps.toList)
  cases h : cps.toList with
  | nil =>
    rw [h] at hl
    simp +decide [f_named, v_named, fnOf, begin_, fin, outs, vSeq, vIfS, vIf, vB, vOp, vCons, vVal, vSlot, vVar, vC, vNil, vFin, resAll, Arg.res, vIce, D.ice, ices, D.fz, fzs, vSet, vRet, vRetV, vNext, vExpr, vCall, vFinC, once, owned, putB, fIxA, ixA, ixD, D.seq?, atI0, atI1, fGt, fGe, fLe, fLt, fCmp, fI2, fI, fMod, fIc, cMod, cDiv, fDiv, fSub, fPow, cPow, fAdd, fMul, vStore, vFinS, ixN, fLst, fTup, fLen, lenD, fAbs, fMax2, fMin2, fInt, fNeg, fIsN, D.isN, fIsi, D.ty?, fEq, eqD, D.sv, vNot, vAnd, vOr, vNotT, vAndT, vOrT, vChain, fIn, vAsg, gvTup, gvCons, gvName, gvNil, LIM, scal, flatV, vItems, itemsA, D.items?, vLc, lcFin, restE, wipeE, vsOk, depOk, chkO, chars_fz, fAll, vPar, two, fList, vFor, vOpI, vTurn, vMeth, vFinM, mPopAt, mAppend, Out.bind_ok, hl, isa, isaT, nmL]
  | cons c r =>
    rw [h] at hl hL oz
    have hL' : r.length ≤ 9999999 := by simp at hL; omega
    have h1 : (1 : Int) ≤ ((r.length : Int) + 1) := by omega
    by_cases h6 : ((r.length : Int) + 1) ≤ 6
    · have h6' : r.length + 1 ≤ 6 := by omega
      by_cases hcl : c ∈ lets
      · rw [h] at hc oe
        simp +decide [f_named, v_named, fSlB, slD, sl, cut26, fnOf, begin_, fin, outs, vSeq, vIfS, vIf, vB, vOp, vCons, vVal, vSlot, vVar, vC, vNil, vFin, resAll, Arg.res, vIce, D.ice, ices, D.fz, fzs, vSet, vRet, vRetV, vNext, vExpr, vCall, vFinC, once, owned, putB, fIxA, ixA, ixD, D.seq?, atI0, atI1, fGt, fGe, fLe, fLt, fCmp, fI2, fI, fMod, fIc, cMod, cDiv, fDiv, fSub, fPow, cPow, fAdd, fMul, vStore, vFinS, ixN, fLst, fTup, fLen, lenD, fAbs, fMax2, fMin2, fInt, fNeg, fIsN, D.isN, fIsi, D.ty?, fEq, D.sv, vNot, vAnd, vOr, vNotT, vAndT, vOrT, vChain, fIn, vAsg, gvTup, gvCons, gvName, gvNil, LIM, scal, flatV, vItems, itemsA, D.items?, vLc, lcFin, restE, wipeE, vsOk, depOk, chkO, chars_fz, fAll, vPar, two, fList, vFor, vOpI, vTurn, vMeth, vFinM, mPopAt, mAppend, Out.bind_ok, hl, isa, isaT, nmL, h1, h6, h6', h, inD, hcl, hc, oe, oz, atI0, hL']
      · simp +decide [f_named, v_named, fSlB, slD, sl, cut26, fnOf, begin_, fin, outs, vSeq, vIfS, vIf, vB, vOp, vCons, vVal, vSlot, vVar, vC, vNil, vFin, resAll, Arg.res, vIce, D.ice, ices, D.fz, fzs, vSet, vRet, vRetV, vNext, vExpr, vCall, vFinC, once, owned, putB, fIxA, ixA, ixD, D.seq?, atI0, atI1, fGt, fGe, fLe, fLt, fCmp, fI2, fI, fMod, fIc, cMod, cDiv, fDiv, fSub, fPow, cPow, fAdd, fMul, vStore, vFinS, ixN, fLst, fTup, fLen, lenD, fAbs, fMax2, fMin2, fInt, fNeg, fIsN, D.isN, fIsi, D.ty?, fEq, eqD, D.sv, vNot, vAnd, vOr, vNotT, vAndT, vOrT, vChain, fIn, vAsg, gvTup, gvCons, gvName, gvNil, LIM, scal, flatV, vItems, itemsA, D.items?, vLc, lcFin, restE, wipeE, vsOk, depOk, chkO, chars_fz, fAll, vPar, two, fList, vFor, vOpI, vTurn, vMeth, vFinM, mPopAt, mAppend, Out.bind_ok, hl, isa, isaT, nmL, h1, h6, h6', h, inD, hcl, atI0, hL']
    · have h6' : ¬ r.length + 1 ≤ 6 := by omega
      simp +decide [f_named, v_named, fnOf, begin_, fin, outs, vSeq, vIfS, vIf, vB, vOp, vCons, vVal, vSlot, vVar, vC, vNil, vFin, resAll, Arg.res, vIce, D.ice, ices, D.fz, fzs, vSet, vRet, vRetV, vNext, vExpr, vCall, vFinC, once, owned, putB, fIxA, ixA, ixD, D.seq?, atI0, atI1, fGt, fGe, fLe, fLt, fCmp, fI2, fI, fMod, fIc, cMod, cDiv, fDiv, fSub, fPow, cPow, fAdd, fMul, vStore, vFinS, ixN, fLst, fTup, fLen, lenD, fAbs, fMax2, fMin2, fInt, fNeg, fIsN, D.isN, fIsi, D.ty?, fEq, eqD, D.sv, vNot, vAnd, vOr, vNotT, vAndT, vOrT, vChain, fIn, vAsg, gvTup, gvCons, gvName, gvNil, LIM, scal, flatV, vItems, itemsA, D.items?, vLc, lcFin, restE, wipeE, vsOk, depOk, chkO, chars_fz, fAll, vPar, two, fList, vFor, vOpI, vTurn, vMeth, vFinM, mPopAt, mAppend, Out.bind_ok, hl, isa, isaT, nmL, h1, h6, h6', hL']
/-! ### other kinds -/
theorem isname_non : f_isname [.non] = .ok ([.non], .bl false) := by simp +decide [f_isname, v_isname, fnOf, begin_, fin, outs, vSeq, vIfS, vIf, vB, vOp, vCons, vVal, vSlot, vVar, vC, vNil, vFin, resAll, Arg.res, vIce, D.ice, ices, D.fz, fzs, vSet, vRet, vRetV, vNext, vExpr, vCall, vFinC, once, owned, putB, fIxA, ixA, ixD, D.seq?, atI0, atI1, fGt, fGe, fLe, fLt, fCmp, fI2, fI, fMod, fIc, cMod, cDiv, fDiv, fSub, fPow, cPow, fAdd, fMul, vStore, vFinS, ixN, fLst, fTup, fLen, lenD, fAbs, fMax2, fMin2, fInt, fNeg, fIsN, D.isN, fIsi, D.ty?, fEq, eqD, D.sv, vNot, vAnd, vOr, vNotT, vAndT, vOrT, vChain, fIn, vAsg, gvTup, gvCons, gvName, gvNil, LIM, scal, flatV, vItems, itemsA, D.items?, vLc, lcFin, restE, wipeE, vsOk, depOk, chkO, chars_fz, fAll, vPar, two, fList, vFor, vOpI, vTurn, vMeth, vFinM, mPopAt, mAppend, Out.bind_ok, isa, isaT]
theorem isname_bl {b : Bool} : f_isname [.bl b] = .ok ([.bl b], .bl false) := by simp +decide [f_isname, v_isname, fnOf, begin_, fin, outs, vSeq, vIfS, vIf, vB, vOp, vCons, vVal, vSlot, vVar, vC, vNil, vFin, resAll, Arg.res, vIce, D.ice, ices, D.fz, fzs, vSet, vRet, vRetV, vNext, vExpr, vCall, vFinC, once, owned, putB, fIxA, ixA, ixD, D.seq?, atI0, atI1, fGt, fGe, fLe, fLt, fCmp, fI2, fI, fMod, fIc, cMod, cDiv, fDiv, fSub, fPow, cPow, fAdd, fMul, vStore, vFinS, ixN, fLst, fTup, fLen, lenD, fAbs, fMax2, fMin2, fInt, fNeg, fIsN, D.isN, fIsi, D.ty?, fEq, eqD, D.sv, vNot, vAnd, vOr, vNotT, vAndT, vOrT, vChain, fIn, vAsg, gvTup, gvCons, gvName, gvNil, LIM, scal, flatV, vItems, itemsA, D.items?, vLc, lcFin, restE, wipeE, vsOk, depOk, chkO, chars_fz, fAll, vPar, two, fList, vFor, vOpI, vTurn, vMeth, vFinM, mPopAt, mAppend, Out.bind_ok, isa, isaT]
theorem isname_int {b : Int} : f_isname [.int b] = .ok ([.int b], .bl false) := by simp +decide [f_isname, v_isname, fnOf, begin_, fin, outs, vSeq, vIfS, vIf, vB, vOp, vCons, vVal, vSlot, vVar, vC, vNil, vFin, resAll, Arg.res, vIce, D.ice, ices, D.fz, fzs, vSet, vRet, vRetV, vNext, vExpr, vCall, vFinC, once, owned, putB, fIxA, ixA, ixD, D.seq?, atI0, atI1, fGt, fGe, fLe, fLt, fCmp, fI2, fI, fMod, fIc, cMod, cDiv, fDiv, fSub, fPow, cPow, fAdd, fMul, vStore, vFinS, ixN, fLst, fTup, fLen, lenD, fAbs, fMax2, fMin2, fInt, fNeg, fIsN, D.isN, fIsi, D.ty?, fEq, eqD, D.sv, vNot, vAnd, vOr, vNotT, vAndT, vOrT, vChain, fIn, vAsg, gvTup, gvCons, gvName, gvNil, LIM, scal, flatV, vItems, itemsA, D.items?, vLc, lcFin, restE, wipeE, vsOk, depOk, chkO, chars_fz, fAll, vPar, two, fList, vFor, vOpI, vTurn, vMeth, vFinM, mPopAt, mAppend, Out.bind_ok, isa, isaT]
theorem isname_tup {k : Bool} {xs : List D} (h : fzs xs = true) : f_isname [.tup k xs] = .ok ([.tup k xs], .bl false) := by simp +decide [f_isname, v_isname, fnOf, begin_, fin, outs, vSeq, vIfS, vIf, vB, vOp, vCons, vVal, vSlot, vVar, vC, vNil, vFin, resAll, Arg.res, vIce, D.ice, ices, D.fz, fzs, vSet, vRet, vRetV, vNext, vExpr, vCall, vFinC, once, owned, putB, fIxA, ixA, ixD, D.seq?, atI0, atI1, fGt, fGe, fLe, fLt, fCmp, fI2, fI, fMod, fIc, cMod, cDiv, fDiv, fSub, fPow, cPow, fAdd, fMul, vStore, vFinS, ixN, fLst, fTup, fLen, lenD, fAbs, fMax2, fMin2, fInt, fNeg, fIsN, D.isN, fIsi, D.ty?, fEq, eqD, D.sv, vNot, vAnd, vOr, vNotT, vAndT, vOrT, vChain, fIn, vAsg, gvTup, gvCons, gvName, gvNil, LIM, scal, flatV, vItems, itemsA, D.items?, vLc, lcFin, restE, wipeE, vsOk, depOk, chkO, chars_fz, fAll, vPar, two, fList, vFor, vOpI, vTurn, vMeth, vFinM, mPopAt, mAppend, Out.bind_ok, isa, isaT, h]
theorem named_non : f_named [.non] = .ok ([.non], .bl false) := by simp +decide [f_named, v_named, fnOf, begin_, fin, outs, vSeq, vIfS, vIf, vB, vOp, vCons, vVal, vSlot, vVar, vC, vNil, vFin, resAll, Arg.res, vIce, D.ice, ices, D.fz, fzs, vSet, vRet, vRetV, vNext, vExpr, vCall, vFinC, once, owned, putB, fIxA, ixA, ixD, D.seq?, atI0, atI1, fGt, fGe, fLe, fLt, fCmp, fI2, fI, fMod, fIc, cMod, cDiv, fDiv, fSub, fPow, cPow, fAdd, fMul, vStore, vFinS, ixN, fLst, fTup, fLen, lenD, fAbs, fMax2, fMin2, fInt, fNeg, fIsN, D.isN, fIsi, D.ty?, fEq, eqD, D.sv, vNot, vAnd, vOr, vNotT, vAndT, vOrT, vChain, fIn, vAsg, gvTup, gvCons, gvName, gvNil, LIM, scal, flatV, vItems, itemsA, D.items?, vLc, lcFin, restE, wipeE, vsOk, depOk, chkO, chars_fz, fAll, vPar, two, fList, vFor, vOpI, vTurn, vMeth, vFinM, mPopAt, mAppend, Out.bind_ok, isa, isaT]
theorem named_bl {b : Bool} : f_named [.bl b] = .ok ([.bl b], .bl false) := by simp +decide [f_named, v_named, fnOf, begin_, fin, outs, vSeq, vIfS, vIf, vB, vOp, vCons, vVal, vSlot, vVar, vC, vNil, vFin, resAll, Arg.res, vIce, D.ice, ices, D.fz, fzs, vSet, vRet, vRetV, vNext, vExpr, vCall, vFinC, once, owned, putB, fIxA, ixA, ixD, D.seq?, atI0, atI1, fGt, fGe, fLe, fLt, fCmp, fI2, fI, fMod, fIc, cMod, cDiv, fDiv, fSub, fPow, cPow, fAdd, fMul, vStore, vFinS, ixN, fLst, fTup, fLen, lenD, fAbs, fMax2, fMin2, fInt, fNeg, fIsN, D.isN, fIsi, D.ty?, fEq, eqD, D.sv, vNot, vAnd, vOr, vNotT, vAndT, vOrT, vChain, fIn, vAsg, gvTup, gvCons, gvName, gvNil, LIM, scal, flatV, vItems, itemsA, D.items?, vLc, lcFin, restE, wipeE, vsOk, depOk, chkO, chars_fz, fAll, vPar, two, fList, vFor, vOpI, vTurn, vMeth, vFinM, mPopAt, mAppend, Out.bind_ok, isa, isaT]
theorem named_int {b : Int} : f_named [.int b] = .ok ([.int b], .bl false) := by simp +decide [f_named, v_named, fnOf, begin_, fin, outs, vSeq, vIfS, vIf, vB, vOp, vCons, vVal, vSlot, vVar, vC, vNil, vFin, resAll, Arg.res, vIce, D.ice, ices, D.fz, fzs, vSet, vRet, vRetV, vNext, vExpr, vCall, vFinC, once, owned, putB, fIxA, ixA, ixD, D.seq?, atI0, atI1, fGt, fGe, fLe, fLt, fCmp, fI2, fI, fMod, fIc, cMod, cDiv, fDiv, fSub, fPow, cPow, fAdd, fMul, vStore, vFinS, ixN, fLst, fTup, fLen, lenD, fAbs, fMax2, fMin2, fInt, fNeg, fIsN, D.isN, fIsi, D.ty?, fEq, eqD, D.sv, vNot, vAnd, vOr, vNotT, vAndT, vOrT, vChain, fIn, vAsg, gvTup, gvCons, gvName, gvNil, LIM, scal, flatV, vItems, itemsA, D.items?, vLc, lcFin, restE, wipeE, vsOk, depOk, chkO, chars_fz, fAll, vPar, two, fList, vFor, vOpI, vTurn, vMeth, vFinM, mPopAt, mAppend, Out.bind_ok, isa, isaT]
theorem named_tup {k : Bool} {xs : List D} (h : fzs xs = true) : f_named [.tup k xs] = .ok ([.tup k xs], .bl false) := by simp +decide [f_named, v_named, fnOf, begin_, fin, outs, vSeq, vIfS, vIf, vB, vOp, vCons, vVal, vSlot, vVar, vC, vNil, vFin, resAll, Arg.res, vIce, D.ice, ices, D.fz, fzs, vSet, vRet, vRetV, vNext, vExpr, vCall, vFinC, once, owned, putB, fIxA, ixA, ixD, D.seq?, atI0, atI1, fGt, fGe, fLe, fLt, fCmp, fI2, fI, fMod, fIc, cMod, cDiv, fDiv, fSub, fPow, cPow, fAdd, fMul, vStore, vFinS, ixN, fLst, fTup, fLen, lenD, fAbs, fMax2, fMin2, fInt, fNeg, fIsN, D.isN, fIsi, D.ty?, fEq, eqD, D.sv, vNot, vAnd, vOr, vNotT, vAndT, vOrT, vChain, fIn, vAsg, gvTup, gvCons, gvName, gvNil, LIM, scal, flatV, vItems, itemsA, D.items?, vLc, lcFin, restE, wipeE, vsOk, depOk, chkO, chars_fz, fAll, vPar, two, fList, vFor, vOpI, vTurn, vMeth, vFinM, mPopAt, mAppend, Out.bind_ok, isa, isaT, h]
theorem isvalue_non : f_isvalue [.non] = .ok ([.non], .bl true) := by simp +decide [f_isvalue, v_isvalue, fnOf, begin_, fin, outs, vSeq, vIfS, vIf, vB, vOp, vCons, vVal, vSlot, vVar, vC, vNil, vFin, resAll, Arg.res, vIce, D.ice, ices, D.fz, fzs, vSet, vRet, vRetV, vNext, vExpr, vCall, vFinC, once, owned, putB, fIxA, ixA, ixD, D.seq?, atI0, atI1, fGt, fGe, fLe, fLt, fCmp, fI2, fI, fMod, fIc, cMod, cDiv, fDiv, fSub, fPow, cPow, fAdd, fMul, vStore, vFinS, ixN, fLst, fTup, fLen, lenD, fAbs, fMax2, fMin2, fInt, fNeg, fIsN, D.isN, fIsi, D.ty?, fEq, eqD, D.sv, vNot, vAnd, vOr, vNotT, vAndT, vOrT, vChain, fIn, vAsg, gvTup, gvCons, gvName, gvNil, LIM, scal, flatV, vItems, itemsA, D.items?, vLc, lcFin, restE, wipeE, vsOk, depOk, chkO, chars_fz, fAll, vPar, two, fList, vFor, vOpI, vTurn, vMeth, vFinM, mPopAt, mAppend, Out.bind_ok, isa, isaT]
theorem isvalue_bl {b : Bool} : f_isvalue [.bl b] = .ok ([.bl b], .bl true) := by simp +decide [f_isvalue, v_isvalue, fnOf, begin_, fin, outs, vSeq, vIfS, vIf, vB, vOp, vCons, vVal, vSlot, vVar, vC, vNil, vFin, resAll, Arg.res, vIce, D.ice, ices, D.fz, fzs, vSet, vRet, vRetV, vNext, vExpr, vCall, vFinC, once, owned, putB, fIxA, ixA, ixD, D.seq?, atI0, atI1, fGt, fGe, fLe, fLt, fCmp, fI2, fI, fMod, fIc, cMod, cDiv, fDiv, fSub, fPow, cPow, fAdd, fMul, vStore, vFinS, ixN, fLst, fTup, fLen, lenD, fAbs, fMax2, fMin2, fInt, fNeg, fIsN, D.isN, fIsi, D.ty?, fEq, eqD, D.sv, vNot, vAnd, vOr, vNotT, vAndT, vOrT, vChain, fIn, vAsg, gvTup, gvCons, gvName, gvNil, LIM, scal, flatV, vItems, itemsA, D.items?, vLc, lcFin, restE, wipeE, vsOk, depOk, chkO, chars_fz, fAll, vPar, two, fList, vFor, vOpI, vTurn, vMeth, vFinM, mPopAt, mAppend, Out.bind_ok, isa, isaT]
theorem isvalue_int {b : Int} : f_isvalue [.int b] = .ok ([.int b], .bl true) := by simp +decide [f_isvalue, v_isvalue, fnOf, begin_, fin, outs, vSeq, vIfS, vIf, vB, vOp, vCons, vVal, vSlot, vVar, vC, vNil, vFin, resAll, Arg.res, vIce, D.ice, ices, D.fz, fzs, vSet, vRet, vRetV, vNext, vExpr, vCall, vFinC, once, owned, putB, fIxA, ixA, ixD, D.seq?, atI0, atI1, fGt, fGe, fLe, fLt, fCmp, fI2, fI, fMod, fIc, cMod, cDiv, fDiv, fSub, fPow, cPow, fAdd, fMul, vStore, vFinS, ixN, fLst, fTup, fLen, lenD, fAbs, fMax2, fMin2, fInt, fNeg, fIsN, D.isN, fIsi, D.ty?, fEq, eqD, D.sv, vNot, vAnd, vOr, vNotT, vAndT, vOrT, vChain, fIn, vAsg, gvTup, gvCons, gvName, gvNil, LIM, scal, flatV, vItems, itemsA, D.items?, vLc, lcFin, restE, wipeE, vsOk, depOk, chkO, chars_fz, fAll, vPar, two, fList, vFor, vOpI, vTurn, vMeth, vFinM, mPopAt, mAppend, Out.bind_ok, isa, isaT]
theorem isvalue_str {z : Str} (hz : z.length ≤ 1000) : f_isvalue [.str z] = .ok ([.str z], .bl (nm z)) := by simp +decide [f_isvalue, v_isvalue, fnOf, begin_, fin, outs, vSeq, vIfS, vIf, vB, vOp, vCons, vVal, vSlot, vVar, vC, vNil, vFin, resAll, Arg.res, vIce, D.ice, ices, D.fz, fzs, vSet, vRet, vRetV, vNext, vExpr, vCall, vFinC, once, owned, putB, fIxA, ixA, ixD, D.seq?, atI0, atI1, fGt, fGe, fLe, fLt, fCmp, fI2, fI, fMod, fIc, cMod, cDiv, fDiv, fSub, fPow, cPow, fAdd, fMul, vStore, vFinS, ixN, fLst, fTup, fLen, lenD, fAbs, fMax2, fMin2, fInt, fNeg, fIsN, D.isN, fIsi, D.ty?, fEq, eqD, D.sv, vNot, vAnd, vOr, vNotT, vAndT, vOrT, vChain, fIn, vAsg, gvTup, gvCons, gvName, gvNil, LIM, scal, flatV, vItems, itemsA, D.items?, vLc, lcFin, restE, wipeE, vsOk, depOk, chkO, chars_fz, fAll, vPar, two, fList, vFor, vOpI, vTurn, vMeth, vFinM, mPopAt, mAppend, Out.bind_ok, isa, isaT, isname_str hz]
theorem isvalue_tup {k : Bool} {xs : List D} (h : fzs xs = true) : f_isvalue [.tup k xs] = .ok ([.tup k xs], .bl false) := by simp +decide [f_isvalue, v_isvalue, fnOf, begin_, fin, outs, vSeq, vIfS, vIf, vB, vOp, vCons, vVal, vSlot, vVar, vC, vNil, vFin, resAll, Arg.res, vIce, D.ice, ices, D.fz, fzs, vSet, vRet, vRetV, vNext, vExpr, vCall, vFinC, once, owned, putB, fIxA, ixA, ixD, D.seq?, atI0, atI1, fGt, fGe, fLe, fLt, fCmp, fI2, fI, fMod, fIc, cMod, cDiv, fDiv, fSub, fPow, cPow, fAdd, fMul, vStore, vFinS, ixN, fLst, fTup, fLen, lenD, fAbs, fMax2, fMin2, fInt, fNeg, fIsN, D.isN, fIsi, D.ty?, fEq, eqD, D.sv, vNot, vAnd, vOr, vNotT, vAndT, vOrT, vChain, fIn, vAsg, gvTup, gvCons, gvName, gvNil, LIM, scal, flatV, vItems, itemsA, D.items?, vLc, lcFin, restE, wipeE, vsOk, depOk, chkO, chars_fz, fAll, vPar, two, fList, vFor, vOpI, vTurn, vMeth, vFinM, mPopAt, mAppend, Out.bind_ok, isa, isaT, isname_tup h, h]
/-! ### drawn values -/
theorem atI_mem {xs : List D} {r : Int} (h0 : 0 ≤ r) (h1 : r < xs.length) : ∃ x, atI xs r = some x ∧ x ∈ xs := by
  obtain ⟨n, rfl⟩ := Int.eq_ofNat_of_zero_le h0
  have hn : n < xs.length := by omega
  exact ⟨xs[n], by rw [atI_nat, List.getElem?_eq_getElem hn], List.getElem_mem hn⟩
theorem Val.fz {x : D} (h : Val x) : x.fz = true := by cases h <;> rfl
theorem value_ok {d : D} (h : Fd d) : ∃ d' x, f_value [d] = .ok ([d'], x) ∧ Fd d' ∧ Val x := by
  obtain ⟨d1, r1, e1, h1, a1, b1⟩ := take_ok h (m := 10 ^ 18) (by decide) (by decide)
  obtain ⟨d2, r2, e2, h2, a2, b2⟩ := take_ok h1 (m := 4) (by decide) (by decide)
  obtain ⟨d3, r3, e3, h3, a3, b3⟩ := take_ok h2 (m := 30) (by decide) (by decide)
  obtain ⟨d4, r4, e4, h4, a4, b4⟩ := take_ok h3 (m := 16) (by decide) (by decide)
  have e1' : f_take [d, .int 1000000000000000000] = .ok ([d1, .int 1000000000000000000], .int r1) := e1
  have L : ∀ x ∈ ([.non, .int r2, .int (0 - r3), .int r1, .int (0 - r1), .bl true, .bl false, .str "a", .str "b7", .str "none", .str "truth", .str "zzzzzz", .str "card", .str "care", .str "aa", .str "b"] : List D), Val x := fun x m => by
    simp only [List.mem_cons, List.not_mem_nil, or_false] at m
    have w : ∀ z : Str, z ∈ words → Val (.str z) := Val.str
    rcases m with rfl | rfl | rfl | rfl | rfl | rfl | rfl | rfl | rfl | rfl | rfl | rfl | rfl | rfl | rfl | rfl
    · exact .non
    · exact .int _ (by omega)
    · exact .int _ (by omega)
    · exact .int _ (by omega)
    · exact .int _ (by omega)
    · exact .bl _
    · exact .bl _
    all_goals exact w _ (by decide +kernel)
  obtain ⟨x, ex, mx⟩ := atI_mem (xs := ([.non, .int r2, .int (0 - r3), .int r1, .int (0 - r1), .bl true, .bl false, .str "a", .str "b7", .str "none", .str "truth", .str "zzzzzz", .str "card", .str "care", .str "aa", .str "b"] : List D)) a4 (by simpa using b4)
  have vx := L x mx
  refine ⟨d4, x, ?_, h4, vx⟩
  simp only [Int.zero_sub] at ex
  simp +decide [f_value, v_value, fnOf, begin_, fin, outs, vSeq, vIfS, vIf, vB, vOp, vCons, vVal, vSlot, vVar, vC, vNil, vFin, resAll, Arg.res, vIce, D.ice, ices, D.fz, fzs, vSet, vRet, vRetV, vNext, vExpr, vCall, vFinC, once, owned, putB, fIxA, ixA, ixD, D.seq?, atI0, atI1, fGt, fGe, fLe, fLt, fCmp, fI2, fI, fMod, fIc, cMod, cDiv, fDiv, fSub, fPow, cPow, fAdd, fMul, vStore, vFinS, ixN, fLst, fTup, fLen, lenD, fAbs, fMax2, fMin2, fInt, fNeg, fIsN, D.isN, fIsi, D.ty?, fEq, eqD, D.sv, vNot, vAnd, vOr, vNotT, vAndT, vOrT, vChain, fIn, vAsg, gvTup, gvCons, gvName, gvNil, LIM, scal, flatV, vItems, itemsA, D.items?, vLc, lcFin, restE, wipeE, vsOk, depOk, chkO, chars_fz, fAll, vPar, two, fList, vFor, vOpI, vTurn, vMeth, vFinM, mPopAt, mAppend, Out.bind_ok, e1', e2, e3, e4, h.fz, h1.fz, h2.fz, h3.fz, h4.fz, ex, vx.fz]
end Law

set_option Elab.async false
set_option linter.all false
set_option maxRecDepth 100000
set_option maxHeartbeats 2000000
/-! K2e: drawn orders, titles, things. -/
namespace Law
open PySem L2 EV
theorem fzs_erase {xs : List D} {n : Nat} (h : fzs xs = true) : fzs (xs.eraseIdx n) = true := by
  rw [fzs_all] at h ⊢
  exact fun d m => h d (List.mem_of_mem_eraseIdx m)
theorem fzs_snoc {xs : List D} {d : D} (h : fzs xs = true) (hd : d.fz = true) : fzs (xs ++ [d]) = true := by
  rw [fzs_all] at h ⊢
  intro x m
  rcases List.mem_append.mp m with m | m
  · exact h x m
  · have : x = d := by simpa using m
    rw [this]; exact hd
def mixI (n : Nat) (xs : List D) (so : D) (p : List D) (ρ : EV.Env) : Prop := ∃ fd l f k, ρ = [some fd, some so, some (.lst true l), some (.lst true f), k] ∧ Fd fd ∧ f.length = p.length ∧ l.length + f.length = n ∧ (∀ x ∈ l, x ∈ xs) ∧ (∀ x ∈ f, x ∈ xs)
theorem mixed_ok {d : D} {o : Bool} {xs : List D} (h : Fd d) (hf : fzs xs = true) (hl : xs.length ≤ 100) : ∃ d' ys, f_mixed [d, .lst o xs] = .ok ([d', .lst o xs], .lst true ys) ∧ Fd d' ∧ ys.length = xs.length ∧ ∀ y ∈ ys, y ∈ xs := by
  have allf : ∀ l : List D, (∀ x ∈ l, x ∈ xs) → fzs l = true := fun l hl => fzs_all.mpr fun x m => fzs_all.mp hf x (hl x m)
  have key := vLoop_at (chk := fun _ => true) (step := vTurn (gvName 4) (vExpr (vMeth 3 mAppend (vCons (vKeep (vMeth 2 mPopAt (vCons (vVal (vCall f_take (vCons (vSlot 0) (vCons (vVal (vOp fLen (vCons (vSlot 2) vNil))) vNil)))) vNil))) vNil)))) (I := mixI xs.length xs (.lst o xs)) (T := rangeD 0 xs.length) (rangeD 0 xs.length) [] [some d, some (.lst o xs), some (.lst true xs), some (.lst true []), none] rfl ⟨d, xs, [], none, rfl, h, rfl, by simp, fun _ m => m, fun _ m => nomatch m⟩ fun p dd q ρ hT hI => by
    obtain ⟨fd, l, f, k, rfl, hfd, hfp, hlen, hm1, hm2⟩ := hI
    have hT' := congrArg List.length hT
    rw [rangeD_len, List.length_append, List.length_cons] at hT'
    have hpos : 0 < l.length := by omega
    obtain ⟨fd', r, e, hfd', r0, r1⟩ := take_ok hfd (m := (l.length : Int)) (by omega) (by omega)
    obtain ⟨rn, rfl⟩ := Int.eq_ofNat_of_zero_le r0
    have hrn : rn < l.length := by omega
    have hdd : ∃ i : Nat, dd = .int (0 + i) := by
      obtain ⟨i, _, e⟩ := rangeD_mem (lo := 0) (n := xs.length) (d := dd) (by rw [hT]; simp)
      exact ⟨i, e⟩
    obtain ⟨i, rfl⟩ := hdd
    have fl := allf l hm1
    have ff := allf f hm2
    have fx : (l[rn]).fz = true := fzs_all.mp fl _ (List.getElem_mem hrn)
    have big : (rn : Int) < 1000000000 := by omega
    have fb : f.length < 10000000 := by omega
    have hi : rn < l.length := hrn
    refine ⟨[some fd', some (.lst o xs), some (.lst true (l.eraseIdx rn)), some (.lst true (f ++ [l[rn]])), some (.int (0 + i))], ?_, ⟨fd', l.eraseIdx rn, f ++ [l[rn]], _, rfl, hfd', by simp [hfp], by rw [List.length_eraseIdx_of_lt hrn]; simp; omega, fun x m => hm1 x (List.mem_of_mem_eraseIdx m), fun x m => ?_⟩, rfl⟩
    · have ic : (l[rn]).ice = l[rn] := D.ice_id fx
      simp [fnOf, begin_, fin, outs, vSeq, vIfS, vIf, vB, vOp, vCons, vVal, vSlot, vVar, vC, vNil, vFin, resAll, Arg.res, vIce, D.ice, ices, D.fz, fzs, vSet, vRet, vRetV, vNext, vExpr, vCall, vFinC, once, owned, putB, fIxA, ixA, ixD, D.seq?, atI0, atI1, fGt, fGe, fLe, fLt, fCmp, fI2, fI, fMod, fIc, cMod, cDiv, fDiv, fSub, fPow, cPow, fAdd, fMul, vStore, vFinS, ixN, fLst, fTup, fLen, lenD, fAbs, fMax2, fMin2, fInt, fNeg, fIsN, D.isN, fIsi, D.ty?, fEq, eqD, D.sv, vNot, vAnd, vOr, vNotT, vAndT, vOrT, vChain, fIn, vAsg, gvTup, gvCons, gvName, gvNil, LIM, scal, flatV, vItems, itemsA, D.items?, vLc, lcFin, restE, wipeE, vsOk, depOk, chkO, chars_fz, fAll, vPar, two, fList, vFor, vOpI, vTurn, vMeth, vFinM, mPopAt, mAppend, Out.bind_ok, e, hfd.fz, hfd'.fz, hrn, fl, ff, fx, big, fb, ic, fzs_erase fl]
    · rcases List.mem_append.mp m with m | m
      · exact hm2 x m
      · have : x = l[rn] := by simpa using m
        rw [this]
        exact hm1 _ (List.getElem_mem hrn)
  obtain ⟨ρ', e, fd, l, f, k, rfl, hfd, hfp, hlen, hm1, hm2⟩ := key
  refine ⟨fd, f, ?_, hfd, by rw [hfp, rangeD_len], hm2⟩
  have hr := rng1_nat (n := xs.length) (by omega)
  have e1 : vPar 2 3 (vOp fList (vCons (vSlot 1) vNil)) (vOp fLst vNil) (begin_ 2 5 [d, .lst o xs]) = .ok ([some d, some (.lst o xs), some (.lst true xs), some (.lst true []), none], .nx) := by
    simp [vPar, two, vOp, vCons, vVal, vSlot, vNil, vFin, resAll, Arg.res, fList, fLst, D.seq?, begin_, hf, fzs]
  have e2 : vFor ([4] ++ []) (vOpI rng1 (vCons (vVal (vOp fLen (vCons (vSlot 2) vNil))) vNil)) (gvName 4) (vExpr (vMeth 3 mAppend (vCons (vKeep (vMeth 2 mPopAt (vCons (vVal (vCall f_take (vCons (vSlot 0) (vCons (vVal (vOp fLen (vCons (vSlot 2) vNil))) vNil)))) vNil))) vNil))) [some d, some (.lst o xs), some (.lst true xs), some (.lst true []), none] = .ok ([some fd, some (.lst o xs), some (.lst true l), some (.lst true f), k], .nx) := by
    have a : vOpI rng1 (vCons (vVal (vOp fLen (vCons (vSlot 2) vNil))) vNil) [some d, some (.lst o xs), some (.lst true xs), some (.lst true []), none] = .ok ([some d, some (.lst o xs), some (.lst true xs), some (.lst true []), none], rangeD 0 xs.length, none) := by
      refine vOpI_eq (as := [.val (.int xs.length)]) (ds := [.int xs.length]) ?_ rfl hr
      simp [vOp, vCons, vVal, vSlot, vNil, vFin, resAll, Arg.res, fLen, lenD, D.seq?]
    rw [vFor_eq a rfl]
    exact e
  refine fnOf_rt rfl (ρ' := [some fd, some (.lst o xs), some (.lst true l), none, k]) ?_ ?_
  · unfold v_mixed
    rw [vSeq_nx e1, vSeq_nx e2]
    rfl
  · cases o <;> simp [outs, D.fz, h.fz, hf]
end Law

set_option Elab.async false
set_option linter.all false
set_option maxRecDepth 100000
set_option maxHeartbeats 2000000
/-! K2f: titles. -/
namespace Law
open PySem L2 EV
abbrev sgD : D := .str "abcdefghijklmnopqrstuvwxyz0123456789"
structure Tt (ys : List D) : Prop where
  len : ys.length = 3
  all : ∀ y ∈ ys, ∃ z : Str, y = .str z ∧ z.length ≤ 20
theorem Tt.fz {ys : List D} (h : Tt ys) : fzs ys = true := fzs_all.mpr fun y m => by
  obtain ⟨z, rfl, _⟩ := h.all y m
  rfl
abbrev tE (d st fm : D) (k : Option D) : EV.Env := [some d, some (.int 3), some sgD, some st, some fm, k]
theorem lc3 {d st fm : D} {F : VE} (hF : ∀ i : Nat, i < 3 → ∃ z : Str, F (tE d st fm (some (.int (0 + i)))) = .ok (tE d st fm (some (.int (0 + i))), .str z) ∧ z.length ≤ 20) :
    ∃ ys, vLc [5] (vOpI rng1 (vCons (vSlot 1) vNil)) (gvName 5) vTrue F (tE d st fm none) = .ok (tE d st fm none, .lst true ys) ∧ Tt ys := by
  have a : vOpI rng1 (vCons (vSlot 1) vNil) (tE d st fm none) = .ok (tE d st fm none, rangeD 0 3, none) := vOpI_eq (as := [.slot 1]) (ds := [.int 3]) rfl rfl (rng1_nat (n := 3) (by decide))
  obtain ⟨ρ', ys, e, h1, h2, h3⟩ := cLoop_run (chk := chkO none) (turn := cTurn [5] (gvName 5) vTrue F) (I := fun p acc ρ => ρ = tE d st fm none ∧ acc.length = p.length ∧ ∀ y ∈ acc, ∃ z : Str, y = .str z ∧ z.length ≤ 20) (rangeD 0 3) [] [] (tE d st fm none) ⟨rfl, rfl, fun _ m => nomatch m⟩ (by rw [rangeD_len]; decide) fun dd m p acc ρ hI => by
    obtain ⟨rfl, hl, ha⟩ := hI
    obtain ⟨i, hi, rfl⟩ := rangeD_mem m
    obtain ⟨z, ez, hz⟩ := hF i hi
    refine ⟨tE d st fm none, some (.str z), ?_, ⟨rfl, by simp [hl], fun y my => ?_⟩, rfl⟩
    · unfold cTurn
      have g : gvName 5 (.int (0 + (i : Int))) (tE d st fm none) = some (tE d st fm (some (.int (0 + i)))) := rfl
      rw [g]
      show (match vTrue (tE d st fm (some (.int (0 + i)))) with | .ok (ρ2, true) => (match F ρ2 with | .ok (ρ3, y) => Out.ok (wipeE ρ3 [5], some y.ice) | _ => .bad) | .ok (ρ2, false) => .ok (wipeE ρ2 [5], none) | _ => .bad) = _
      unfold vTrue
      dsimp only
      rw [ez]
      rfl
    · rcases List.mem_append.mp my with my | my
      · exact ha y my
      · have : y = .str z := by simpa using my
        exact ⟨z, this, hz⟩
  subst h1
  rw [List.nil_append, rangeD_len] at h2
  exact ⟨ys, vLc_eq a rfl rfl e, h2, h3⟩
theorem sign_at {r : Int} (h0 : 0 ≤ r) (h1 : r < 36) : ∃ c, atI (Str.ofString "abcdefghijklmnopqrstuvwxyz0123456789").cps.toList r = some c := by
  obtain ⟨n, rfl⟩ := Int.eq_ofNat_of_zero_le h0
  have hl : (Str.ofString "abcdefghijklmnopqrstuvwxyz0123456789").cps.toList.length = 36 := by decide +kernel
  have hn : n < (Str.ofString "abcdefghijklmnopqrstuvwxyz0123456789").cps.toList.length := by omega
  exact ⟨_, by rw [atI_nat, List.getElem?_eq_getElem hn]⟩
theorem sgl : (Str.ofString "abcdefghijklmnopqrstuvwxyz0123456789").length = 36 := by decide +kernel
theorem one_len {c : Nat} : (⟨#[c]⟩ : Str).length = 1 := rfl
theorem form0 {d fm : D} {st : Int} (hs : 0 ≤ st) (hs' : st < 26) {i : Nat} (hi : i < 3) : ∃ z : Str, vOp fAdd (v2 (vVal (vOp fIxA (v2 (vSlot 2) (vVal (vOp fMod (v2 (vVal (vOp fAdd (v2 (vSlot 3) (vSlot 5)))) (vVal (vC (.int (26)))))))))) (vVal (vOp fStr (vCons (vVal (vOp fAdd (v2 (vVal (vOp fMul (v2 (vSlot 3) (vVal (vC (.int (7))))))) (vSlot 5)))) vNil)))) (tE d (.int st) fm (some (.int (0 + i)))) = .ok (tE d (.int st) fm (some (.int (0 + i))), .str z) ∧ z.length ≤ 20 := by
  obtain ⟨c, hc⟩ := sign_at (r := (st + (0 + i)) % 26) (by omega) (by omega)
  have l1 : st.natAbs.log2 + 2 < 1000000 := by have := PySem.Flt.log2_lt_of (k := 64) (n := st.natAbs) (by decide) (by omega); omega
  have l2 : (st * 7 + (0 + (i : Int))).natAbs.log2 < 1920 := by have := PySem.Flt.log2_lt_of (k := 64) (n := (st * 7 + (0 + (i : Int))).natAbs) (by decide) (by omega); omega
  have l7 : Nat.log2 7 = 2 := by decide +kernel
  have le := iS_len (i := st * 7 + (0 + (i : Int))) (k := 3) (by decide) (by omega)
  have lz : (⟨#[c]⟩ : Str).length + (iS (st * 7 + (0 + (i : Int)))).length ≤ 10000000 := by rw [one_len]; omega
  refine ⟨⟨#[c]⟩ ++ iS (st * 7 + (0 + (i : Int))), ?_, by rw [PySem.strLen_append, one_len]; omega⟩
  simp only [Int.zero_add] at hc l2 lz ⊢
  have lz' : (⟨#[c]⟩ : Str).length + (Str.ofString (st * 7 + (i : Int)).repr).length ≤ 10000000 := lz
  simp [fnOf, begin_, fin, outs, vSeq, vIfS, vIf, vB, vOp, vCons, vVal, vSlot, vVar, vC, vNil, vFin, resAll, Arg.res, vIce, D.ice, ices, D.fz, fzs, vSet, vRet, vRetV, vNext, vExpr, vCall, vFinC, once, owned, putB, fIxA, ixA, ixD, D.seq?, atI0, atI1, fGt, fGe, fLe, fLt, fCmp, fI2, fI, fMod, fIc, cMod, cDiv, fDiv, fSub, fPow, cPow, fAdd, fMul, vStore, vFinS, ixN, fLst, fTup, fLen, lenD, fAbs, fMax2, fMin2, fInt, fNeg, fIsN, D.isN, fIsi, D.ty?, fEq, eqD, D.sv, vNot, vAnd, vOr, vNotT, vAndT, vOrT, vChain, fIn, vAsg, gvTup, gvCons, gvName, gvNil, LIM, scal, flatV, vItems, itemsA, D.items?, vLc, lcFin, restE, wipeE, vsOk, depOk, chkO, chars_fz, fAll, vPar, two, fList, vFor, vOpI, vTurn, vMeth, vFinM, mPopAt, mAppend, Out.bind_ok, hc, l1, l2, l7, sgl, fStr, lz']
  rfl
theorem form1 {d fm : D} {st : Int} (hs : 0 ≤ st) (hs' : st < 26) {i : Nat} (hi : i < 3) : ∃ z : Str, vOp fAdd (v2 (vVal (vC (.str "k"))) (vVal (vOp fIxA (v2 (vSlot 2) (vVal (vOp fMod (v2 (vVal (vOp fAdd (v2 (vSlot 3) (vVal (vOp fMul (v2 (vVal (vC (.int (5)))) (vSlot 5))))))) (vVal (vC (.int (36))))))))))) (tE d (.int st) fm (some (.int (0 + i)))) = .ok (tE d (.int st) fm (some (.int (0 + i))), .str z) ∧ z.length ≤ 20 := by
  obtain ⟨c, hc⟩ := sign_at (r := (st + 5 * (0 + i)) % 36) (by omega) (by omega)
  have l1 : 2 + (i : Int).natAbs.log2 < 1000000 := by have := PySem.Flt.log2_lt_of (k := 64) (n := (i : Int).natAbs) (by decide) (by omega); omega
  have l7 : Nat.log2 5 = 2 := by decide +kernel
  have lk : (Str.ofString "k").length = 1 := by decide +kernel
  refine ⟨Str.ofString "k" ++ ⟨#[c]⟩, ?_, by rw [PySem.strLen_append, one_len, lk]; decide⟩
  simp only [Int.zero_add] at hc l1 ⊢
  simp at l1
  simp [fnOf, begin_, fin, outs, vSeq, vIfS, vIf, vB, vOp, vCons, vVal, vSlot, vVar, vC, vNil, vFin, resAll, Arg.res, vIce, D.ice, ices, D.fz, fzs, vSet, vRet, vRetV, vNext, vExpr, vCall, vFinC, once, owned, putB, fIxA, ixA, ixD, D.seq?, atI0, atI1, fGt, fGe, fLe, fLt, fCmp, fI2, fI, fMod, fIc, cMod, cDiv, fDiv, fSub, fPow, cPow, fAdd, fMul, vStore, vFinS, ixN, fLst, fTup, fLen, lenD, fAbs, fMax2, fMin2, fInt, fNeg, fIsN, D.isN, fIsi, D.ty?, fEq, eqD, D.sv, vNot, vAnd, vOr, vNotT, vAndT, vOrT, vChain, fIn, vAsg, gvTup, gvCons, gvName, gvNil, LIM, scal, flatV, vItems, itemsA, D.items?, vLc, lcFin, restE, wipeE, vsOk, depOk, chkO, chars_fz, fAll, vPar, two, fList, vFor, vOpI, vTurn, vMeth, vFinM, mPopAt, mAppend, Out.bind_ok, hc, l1, l7, sgl, lk, one_len]
theorem form2 {d fm : D} {st : Int} (hs : 0 ≤ st) (hs' : st < 26) {i : Nat} (hi : i < 3) : ∃ z : Str, vOp fAdd (v2 (vVal (vOp fAdd (v2 (vVal (vC (.str "q0zz"))) (vVal (vOp fIxA (v2 (vSlot 2) (vVal (vOp fMod (v2 (vVal (vOp fAdd (v2 (vSlot 3) (vSlot 5)))) (vVal (vC (.int (36))))))))))))) (vVal (vC (.str "b")))) (tE d (.int st) fm (some (.int (0 + i)))) = .ok (tE d (.int st) fm (some (.int (0 + i))), .str z) ∧ z.length ≤ 20 := by
  obtain ⟨c, hc⟩ := sign_at (r := (st + (0 + i)) % 36) (by omega) (by omega)
  have lk : (Str.ofString "q0zz").length = 4 := by decide +kernel
  have lb : (Str.ofString "b").length = 1 := by decide +kernel
  have lq : (Str.ofString "q0zz" ++ (⟨#[c]⟩ : Str)).length = 5 := by rw [PySem.strLen_append, one_len, lk]
  refine ⟨Str.ofString "q0zz" ++ ⟨#[c]⟩ ++ Str.ofString "b", ?_, by rw [PySem.strLen_append, lq, lb]; decide⟩
  simp only [Int.zero_add] at hc ⊢
  simp [fnOf, begin_, fin, outs, vSeq, vIfS, vIf, vB, vOp, vCons, vVal, vSlot, vVar, vC, vNil, vFin, resAll, Arg.res, vIce, D.ice, ices, D.fz, fzs, vSet, vRet, vRetV, vNext, vExpr, vCall, vFinC, once, owned, putB, fIxA, ixA, ixD, D.seq?, atI0, atI1, fGt, fGe, fLe, fLt, fCmp, fI2, fI, fMod, fIc, cMod, cDiv, fDiv, fSub, fPow, cPow, fAdd, fMul, vStore, vFinS, ixN, fLst, fTup, fLen, lenD, fAbs, fMax2, fMin2, fInt, fNeg, fIsN, D.isN, fIsi, D.ty?, fEq, eqD, D.sv, vNot, vAnd, vOr, vNotT, vAndT, vOrT, vChain, fIn, vAsg, gvTup, gvCons, gvName, gvNil, LIM, scal, flatV, vItems, itemsA, D.items?, vLc, lcFin, restE, wipeE, vsOk, depOk, chkO, chars_fz, fAll, vPar, two, fList, vFor, vOpI, vTurn, vMeth, vFinM, mPopAt, mAppend, Out.bind_ok, hc, sgl, lk, one_len, lq, lb]
theorem mul_len {c : Nat} {n : Int} (h : n ≤ 5) : (Txt.mul ⟨#[c]⟩ n).length ≤ 5 := by
  have : n < 1 ∨ n = 1 ∨ n = 2 ∨ n = 3 ∨ n = 4 ∨ n = 5 := by omega
  rcases this with h | rfl | rfl | rfl | rfl | rfl
  · unfold Txt.mul
    rw [if_pos h]
    decide
  all_goals exact Nat.le_of_ble_eq_true rfl
theorem form3 {d fm : D} {st : Int} (hs : 0 ≤ st) (hs' : st < 26) {i : Nat} (hi : i < 3) : ∃ z : Str, vOp fMul (v2 (vVal (vOp fIxA (v2 (vSlot 2) (vVal (vOp fMod (v2 (vSlot 5) (vVal (vC (.int (26)))))))))) (vVal (vOp fAdd (v2 (vVal (vOp fAdd (v2 (vVal (vC (.int (1)))) (vVal (vOp fDiv (v2 (vSlot 5) (vVal (vC (.int (26)))))))))) (vVal (vOp fMod (v2 (vSlot 3) (vVal (vC (.int (3))))))))))) (tE d (.int st) fm (some (.int (0 + i)))) = .ok (tE d (.int st) fm (some (.int (0 + i))), .str z) ∧ z.length ≤ 20 := by
  obtain ⟨c, hc⟩ := sign_at (r := (0 + (i : Int)) % 26) (by omega) (by omega)
  have ld : Nat.log2 26 < 9000 := by decide +kernel
  have lm := mul_len (c := c) (n := 1 + (0 + (i : Int)) / 26 + st % 3) (by omega)
  have b0 : 0 ≤ 1 + (i : Int) / 26 + st % 3 := by omega
  have b1 : 1 + (i : Int) / 26 + st % 3 ≤ 1000 := by omega
  refine ⟨Txt.mul ⟨#[c]⟩ (1 + (0 + (i : Int)) / 26 + st % 3), ?_, by omega⟩
  simp only [Int.zero_add] at hc lm ⊢
  simp [fnOf, begin_, fin, outs, vSeq, vIfS, vIf, vB, vOp, vCons, vVal, vSlot, vVar, vC, vNil, vFin, resAll, Arg.res, vIce, D.ice, ices, D.fz, fzs, vSet, vRet, vRetV, vNext, vExpr, vCall, vFinC, once, owned, putB, fIxA, ixA, ixD, D.seq?, atI0, atI1, fGt, fGe, fLe, fLt, fCmp, fI2, fI, fMod, fIc, cMod, cDiv, fDiv, fSub, fPow, cPow, fAdd, fMul, vStore, vFinS, ixN, fLst, fTup, fLen, lenD, fAbs, fMax2, fMin2, fInt, fNeg, fIsN, D.isN, fIsi, D.ty?, fEq, eqD, D.sv, vNot, vAnd, vOr, vNotT, vAndT, vOrT, vChain, fIn, vAsg, gvTup, gvCons, gvName, gvNil, LIM, scal, flatV, vItems, itemsA, D.items?, vLc, lcFin, restE, wipeE, vsOk, depOk, chkO, chars_fz, fAll, vPar, two, fList, vFor, vOpI, vTurn, vMeth, vFinM, mPopAt, mAppend, Out.bind_ok, hc, sgl, one_len, ld, b0, b1]
end Law

set_option Elab.async false
set_option linter.all false
set_option maxRecDepth 100000
set_option maxHeartbeats 2000000
/-! K2g: titles, the whole. -/
namespace Law
open PySem L2 EV
theorem Tt.of {ys zs : List D} (h : Tt ys) (hl : zs.length = ys.length) (hm : ∀ z ∈ zs, z ∈ ys) : Tt zs := ⟨hl.trans h.len, fun y m => h.all y (hm y m)⟩
theorem titles_run {d : D} (h : Fd d) : ∃ d' st fm ys, v_titles (begin_ 2 6 [d, .int 3]) = .ok (tE d' st fm none, .rt (.lst true ys)) ∧ Fd d' ∧ Tt ys := by
  obtain ⟨d1, r1, e1, h1, a1, b1⟩ := take_ok h (m := 26) (by decide) (by decide)
  obtain ⟨d2, r2, e2, h2, a2, b2⟩ := take_ok h1 (m := 5) (by decide) (by decide)
  have s1 : vAsg (gvTup 2 (gvCons (gvName 2) (gvCons (gvName 3) gvNil))) (vOp fTup (vCons (vKeep (vC (.str "abcdefghijklmnopqrstuvwxyz0123456789"))) (vCons (vKeep (vCall f_take (vCons (vSlot 0) (vCons (vVal (vC (.int (26)))) vNil)))) vNil))) (begin_ 2 6 [d, .int 3]) = .ok ([some d1, some (.int 3), some sgD, some (.int r1), none, none], .nx) := by
    simp [fnOf, begin_, fin, outs, vSeq, vIfS, vIf, vB, vOp, vCons, vVal, vSlot, vVar, vC, vNil, vFin, resAll, Arg.res, vIce, D.ice, ices, D.fz, fzs, vSet, vRet, vRetV, vNext, vExpr, vCall, vFinC, once, owned, putB, fIxA, ixA, ixD, D.seq?, atI0, atI1, fGt, fGe, fLe, fLt, fCmp, fI2, fI, fMod, fIc, cMod, cDiv, fDiv, fSub, fPow, cPow, fAdd, fMul, vStore, vFinS, ixN, fLst, fTup, fLen, lenD, fAbs, fMax2, fMin2, fInt, fNeg, fIsN, D.isN, fIsi, D.ty?, fEq, eqD, D.sv, vNot, vAnd, vOr, vNotT, vAndT, vOrT, vChain, fIn, vAsg, gvTup, gvCons, gvName, gvNil, LIM, scal, flatV, vItems, itemsA, D.items?, vLc, lcFin, restE, wipeE, vsOk, depOk, chkO, chars_fz, fAll, vPar, two, fList, vFor, vOpI, vTurn, vMeth, vFinM, mPopAt, mAppend, Out.bind_ok, e1, h.fz, h1.fz]
  have lg : r2.natAbs.log2 < 1000000 := by have := PySem.Flt.log2_lt_of (k := 64) (n := r2.natAbs) (by decide) (by omega); omega
  have s2 : vSet 4 (vOp fMul (v2 (vVal (vCall f_take (vCons (vSlot 0) (vCons (vVal (vC (.int (5)))) vNil)))) (vVal (vOp fInt (vCons (vVal (vOp fLt (v2 (vSlot 1) (vVal (vC (.int (37))))))) vNil))))) [some d1, some (.int 3), some sgD, some (.int r1), none, none] = .ok (tE d2 (.int r1) (.int r2) none, .nx) := by
    have l1 : Nat.log2 1 = 0 := by decide +kernel
    simp [fnOf, begin_, fin, outs, vSeq, vIfS, vIf, vB, vOp, vCons, vVal, vSlot, vVar, vC, vNil, vFin, resAll, Arg.res, vIce, D.ice, ices, D.fz, fzs, vSet, vRet, vRetV, vNext, vExpr, vCall, vFinC, once, owned, putB, fIxA, ixA, ixD, D.seq?, atI0, atI1, fGt, fGe, fLe, fLt, fCmp, fI2, fI, fMod, fIc, cMod, cDiv, fDiv, fSub, fPow, cPow, fAdd, fMul, vStore, vFinS, ixN, fLst, fTup, fLen, lenD, fAbs, fMax2, fMin2, fInt, fNeg, fIsN, D.isN, fIsi, D.ty?, fEq, eqD, D.sv, vNot, vAnd, vOr, vNotT, vAndT, vOrT, vChain, fIn, vAsg, gvTup, gvCons, gvName, gvNil, LIM, scal, flatV, vItems, itemsA, D.items?, vLc, lcFin, restE, wipeE, vsOk, depOk, chkO, chars_fz, fAll, vPar, two, fList, vFor, vOpI, vTurn, vMeth, vFinM, mPopAt, mAppend, Out.bind_ok, e2, h1.fz, h2.fz, l1, lg]
  unfold v_titles
  rw [vSeq_nx s1, vSeq_nx s2]
  have hq : r2 = 4 ∨ r2 = 0 ∨ r2 = 1 ∨ r2 = 2 ∨ r2 = 3 := by omega
  rcases hq with rfl | rfl | rfl | rfl | rfl
  · obtain ⟨d3, ys, em, h3, l3, m3⟩ := mixed_ok (o := true) (xs := [.str "word", .str "truth", .str "number", .str "none"]) h2 rfl (by decide)
    have fy : fzs ys = true := fzs_all.mpr fun y m => by
      have := m3 y m
      simp only [List.mem_cons, List.not_mem_nil, or_false] at this
      rcases this with rfl | rfl | rfl | rfl <;> rfl
    have l4 : ys.length = 4 := l3
    have ec : cutD ys none (some 3) = ys.take 3 := by
      unfold cutD
      rw [l4]
      rfl
    refine ⟨d3, .int r1, .int 4, ys.take 3, ?_, h3, ⟨by rw [List.length_take, l4]; rfl, fun y m => ?_⟩⟩
    · refine vSeq_rt (vIfS_t (ρ1 := tE d2 (.int r1) (.int 4) none) ?_ ▸ vRet_eq ?_)
      · simp [fnOf, begin_, fin, outs, vSeq, vIfS, vIf, vB, vOp, vCons, vVal, vSlot, vVar, vC, vNil, vFin, resAll, Arg.res, vIce, D.ice, ices, D.fz, fzs, vSet, vRet, vRetV, vNext, vExpr, vCall, vFinC, once, owned, putB, fIxA, ixA, ixD, D.seq?, atI0, atI1, fGt, fGe, fLe, fLt, fCmp, fI2, fI, fMod, fIc, cMod, cDiv, fDiv, fSub, fPow, cPow, fAdd, fMul, vStore, vFinS, ixN, fLst, fTup, fLen, lenD, fAbs, fMax2, fMin2, fInt, fNeg, fIsN, D.isN, fIsi, D.ty?, fEq, eqD, D.sv, vNot, vAnd, vOr, vNotT, vAndT, vOrT, vChain, fIn, vAsg, gvTup, gvCons, gvName, gvNil, LIM, scal, flatV, vItems, itemsA, D.items?, vLc, lcFin, restE, wipeE, vsOk, depOk, chkO, chars_fz, fAll, vPar, two, fList, vFor, vOpI, vTurn, vMeth, vFinM, mPopAt, mAppend, Out.bind_ok]
      · simp [fnOf, begin_, fin, outs, vSeq, vIfS, vIf, vB, vOp, vCons, vVal, vSlot, vVar, vC, vNil, vFin, resAll, Arg.res, vIce, D.ice, ices, D.fz, fzs, vSet, vRet, vRetV, vNext, vExpr, vCall, vFinC, once, owned, putB, fIxA, ixA, ixD, D.seq?, atI0, atI1, fGt, fGe, fLe, fLt, fCmp, fI2, fI, fMod, fIc, cMod, cDiv, fDiv, fSub, fPow, cPow, fAdd, fMul, vStore, vFinS, ixN, fLst, fTup, fLen, lenD, fAbs, fMax2, fMin2, fInt, fNeg, fIsN, D.isN, fIsi, D.ty?, fEq, eqD, D.sv, vNot, vAnd, vOr, vNotT, vAndT, vOrT, vChain, fIn, vAsg, gvTup, gvCons, gvName, gvNil, LIM, scal, flatV, vItems, itemsA, D.items?, vLc, lcFin, restE, wipeE, vsOk, depOk, chkO, chars_fz, fAll, vPar, two, fList, vFor, vOpI, vTurn, vMeth, vFinM, mPopAt, mAppend, Out.bind_ok, em, h2.fz, h3.fz, fSlB, slD, fy, ec]
    · have := m3 y (List.mem_of_mem_take m)
      simp only [List.mem_cons, List.not_mem_nil, or_false] at this
      rcases this with rfl | rfl | rfl | rfl <;> exact ⟨_, rfl, by decide +kernel⟩
  · obtain ⟨ys, ey, ty⟩ := lc3 (d := d2) (st := .int r1) (fm := .int 0) fun i hi => form0 a1 b1 hi
    refine ⟨d2, .int r1, .int 0, ys, ?_, h2, ty⟩
    rw [vSeq_nx (ρ' := tE d2 (.int r1) (.int 0) none) (by simp [fnOf, begin_, fin, outs, vSeq, vIfS, vIf, vB, vOp, vCons, vVal, vSlot, vVar, vC, vNil, vFin, resAll, Arg.res, vIce, D.ice, ices, D.fz, fzs, vSet, vRet, vRetV, vNext, vExpr, vCall, vFinC, once, owned, putB, fIxA, ixA, ixD, D.seq?, atI0, atI1, fGt, fGe, fLe, fLt, fCmp, fI2, fI, fMod, fIc, cMod, cDiv, fDiv, fSub, fPow, cPow, fAdd, fMul, vStore, vFinS, ixN, fLst, fTup, fLen, lenD, fAbs, fMax2, fMin2, fInt, fNeg, fIsN, D.isN, fIsi, D.ty?, fEq, eqD, D.sv, vNot, vAnd, vOr, vNotT, vAndT, vOrT, vChain, fIn, vAsg, gvTup, gvCons, gvName, gvNil, LIM, scal, flatV, vItems, itemsA, D.items?, vLc, lcFin, restE, wipeE, vsOk, depOk, chkO, chars_fz, fAll, vPar, two, fList, vFor, vOpI, vTurn, vMeth, vFinM, mPopAt, mAppend, Out.bind_ok])]
    exact vSeq_rt ((vIfS_t (ρ1 := tE d2 (.int r1) (.int 0) none) (by simp [fnOf, begin_, fin, outs, vSeq, vIfS, vIf, vB, vOp, vCons, vVal, vSlot, vVar, vC, vNil, vFin, resAll, Arg.res, vIce, D.ice, ices, D.fz, fzs, vSet, vRet, vRetV, vNext, vExpr, vCall, vFinC, once, owned, putB, fIxA, ixA, ixD, D.seq?, atI0, atI1, fGt, fGe, fLe, fLt, fCmp, fI2, fI, fMod, fIc, cMod, cDiv, fDiv, fSub, fPow, cPow, fAdd, fMul, vStore, vFinS, ixN, fLst, fTup, fLen, lenD, fAbs, fMax2, fMin2, fInt, fNeg, fIsN, D.isN, fIsi, D.ty?, fEq, eqD, D.sv, vNot, vAnd, vOr, vNotT, vAndT, vOrT, vChain, fIn, vAsg, gvTup, gvCons, gvName, gvNil, LIM, scal, flatV, vItems, itemsA, D.items?, vLc, lcFin, restE, wipeE, vsOk, depOk, chkO, chars_fz, fAll, vPar, two, fList, vFor, vOpI, vTurn, vMeth, vFinM, mPopAt, mAppend, Out.bind_ok])).trans (vRet_eq ey))
  · obtain ⟨ys, ey, ty⟩ := lc3 (d := d2) (st := .int r1) (fm := .int 1) fun i hi => form1 a1 b1 hi
    obtain ⟨d3, zs, em, h3, l3, m3⟩ := mixed_ok (o := true) (xs := ys) h2 ty.fz (by rw [ty.len]; decide)
    refine ⟨d3, .int r1, .int 1, zs, ?_, h3, ty.of l3 m3⟩
    rw [vSeq_nx (ρ' := tE d2 (.int r1) (.int 1) none) (by simp [fnOf, begin_, fin, outs, vSeq, vIfS, vIf, vB, vOp, vCons, vVal, vSlot, vVar, vC, vNil, vFin, resAll, Arg.res, vIce, D.ice, ices, D.fz, fzs, vSet, vRet, vRetV, vNext, vExpr, vCall, vFinC, once, owned, putB, fIxA, ixA, ixD, D.seq?, atI0, atI1, fGt, fGe, fLe, fLt, fCmp, fI2, fI, fMod, fIc, cMod, cDiv, fDiv, fSub, fPow, cPow, fAdd, fMul, vStore, vFinS, ixN, fLst, fTup, fLen, lenD, fAbs, fMax2, fMin2, fInt, fNeg, fIsN, D.isN, fIsi, D.ty?, fEq, eqD, D.sv, vNot, vAnd, vOr, vNotT, vAndT, vOrT, vChain, fIn, vAsg, gvTup, gvCons, gvName, gvNil, LIM, scal, flatV, vItems, itemsA, D.items?, vLc, lcFin, restE, wipeE, vsOk, depOk, chkO, chars_fz, fAll, vPar, two, fList, vFor, vOpI, vTurn, vMeth, vFinM, mPopAt, mAppend, Out.bind_ok]), vSeq_nx (ρ' := tE d2 (.int r1) (.int 1) none) (by simp [fnOf, begin_, fin, outs, vSeq, vIfS, vIf, vB, vOp, vCons, vVal, vSlot, vVar, vC, vNil, vFin, resAll, Arg.res, vIce, D.ice, ices, D.fz, fzs, vSet, vRet, vRetV, vNext, vExpr, vCall, vFinC, once, owned, putB, fIxA, ixA, ixD, D.seq?, atI0, atI1, fGt, fGe, fLe, fLt, fCmp, fI2, fI, fMod, fIc, cMod, cDiv, fDiv, fSub, fPow, cPow, fAdd, fMul, vStore, vFinS, ixN, fLst, fTup, fLen, lenD, fAbs, fMax2, fMin2, fInt, fNeg, fIsN, D.isN, fIsi, D.ty?, fEq, eqD, D.sv, vNot, vAnd, vOr, vNotT, vAndT, vOrT, vChain, fIn, vAsg, gvTup, gvCons, gvName, gvNil, LIM, scal, flatV, vItems, itemsA, D.items?, vLc, lcFin, restE, wipeE, vsOk, depOk, chkO, chars_fz, fAll, vPar, two, fList, vFor, vOpI, vTurn, vMeth, vFinM, mPopAt, mAppend, Out.bind_ok])]
    refine vSeq_rt ((vIfS_t (ρ1 := tE d2 (.int r1) (.int 1) none) (by simp [fnOf, begin_, fin, outs, vSeq, vIfS, vIf, vB, vOp, vCons, vVal, vSlot, vVar, vC, vNil, vFin, resAll, Arg.res, vIce, D.ice, ices, D.fz, fzs, vSet, vRet, vRetV, vNext, vExpr, vCall, vFinC, once, owned, putB, fIxA, ixA, ixD, D.seq?, atI0, atI1, fGt, fGe, fLe, fLt, fCmp, fI2, fI, fMod, fIc, cMod, cDiv, fDiv, fSub, fPow, cPow, fAdd, fMul, vStore, vFinS, ixN, fLst, fTup, fLen, lenD, fAbs, fMax2, fMin2, fInt, fNeg, fIsN, D.isN, fIsi, D.ty?, fEq, eqD, D.sv, vNot, vAnd, vOr, vNotT, vAndT, vOrT, vChain, fIn, vAsg, gvTup, gvCons, gvName, gvNil, LIM, scal, flatV, vItems, itemsA, D.items?, vLc, lcFin, restE, wipeE, vsOk, depOk, chkO, chars_fz, fAll, vPar, two, fList, vFor, vOpI, vTurn, vMeth, vFinM, mPopAt, mAppend, Out.bind_ok])).trans (vRet_eq ?_))
    refine (vCall_eq (ρ1 := tE d2 (.int r1) (.int 1) none) (as := [.slot 0, .val (.lst true ys)]) (ds := [d2, .lst true ys]) ?_ rfl (by simp [once, owned, h2.fz]) em rfl).trans ?_
    · exact vCons_eq (vSlot_eq rfl) (vCons_eq (vVal_eq ey) rfl)
    · simp [putB, owned, h2.fz, D.fz]
  · obtain ⟨ys, ey, ty⟩ := lc3 (d := d2) (st := .int r1) (fm := .int 2) fun i hi => form2 a1 b1 hi
    obtain ⟨d3, zs, em, h3, l3, m3⟩ := mixed_ok (o := true) (xs := ys) h2 ty.fz (by rw [ty.len]; decide)
    refine ⟨d3, .int r1, .int 2, zs, ?_, h3, ty.of l3 m3⟩
    rw [vSeq_nx (ρ' := tE d2 (.int r1) (.int 2) none) (by simp [fnOf, begin_, fin, outs, vSeq, vIfS, vIf, vB, vOp, vCons, vVal, vSlot, vVar, vC, vNil, vFin, resAll, Arg.res, vIce, D.ice, ices, D.fz, fzs, vSet, vRet, vRetV, vNext, vExpr, vCall, vFinC, once, owned, putB, fIxA, ixA, ixD, D.seq?, atI0, atI1, fGt, fGe, fLe, fLt, fCmp, fI2, fI, fMod, fIc, cMod, cDiv, fDiv, fSub, fPow, cPow, fAdd, fMul, vStore, vFinS, ixN, fLst, fTup, fLen, lenD, fAbs, fMax2, fMin2, fInt, fNeg, fIsN, D.isN, fIsi, D.ty?, fEq, eqD, D.sv, vNot, vAnd, vOr, vNotT, vAndT, vOrT, vChain, fIn, vAsg, gvTup, gvCons, gvName, gvNil, LIM, scal, flatV, vItems, itemsA, D.items?, vLc, lcFin, restE, wipeE, vsOk, depOk, chkO, chars_fz, fAll, vPar, two, fList, vFor, vOpI, vTurn, vMeth, vFinM, mPopAt, mAppend, Out.bind_ok]), vSeq_nx (ρ' := tE d2 (.int r1) (.int 2) none) (by simp [fnOf, begin_, fin, outs, vSeq, vIfS, vIf, vB, vOp, vCons, vVal, vSlot, vVar, vC, vNil, vFin, resAll, Arg.res, vIce, D.ice, ices, D.fz, fzs, vSet, vRet, vRetV, vNext, vExpr, vCall, vFinC, once, owned, putB, fIxA, ixA, ixD, D.seq?, atI0, atI1, fGt, fGe, fLe, fLt, fCmp, fI2, fI, fMod, fIc, cMod, cDiv, fDiv, fSub, fPow, cPow, fAdd, fMul, vStore, vFinS, ixN, fLst, fTup, fLen, lenD, fAbs, fMax2, fMin2, fInt, fNeg, fIsN, D.isN, fIsi, D.ty?, fEq, eqD, D.sv, vNot, vAnd, vOr, vNotT, vAndT, vOrT, vChain, fIn, vAsg, gvTup, gvCons, gvName, gvNil, LIM, scal, flatV, vItems, itemsA, D.items?, vLc, lcFin, restE, wipeE, vsOk, depOk, chkO, chars_fz, fAll, vPar, two, fList, vFor, vOpI, vTurn, vMeth, vFinM, mPopAt, mAppend, Out.bind_ok]), vSeq_nx (ρ' := tE d2 (.int r1) (.int 2) none) (by simp [fnOf, begin_, fin, outs, vSeq, vIfS, vIf, vB, vOp, vCons, vVal, vSlot, vVar, vC, vNil, vFin, resAll, Arg.res, vIce, D.ice, ices, D.fz, fzs, vSet, vRet, vRetV, vNext, vExpr, vCall, vFinC, once, owned, putB, fIxA, ixA, ixD, D.seq?, atI0, atI1, fGt, fGe, fLe, fLt, fCmp, fI2, fI, fMod, fIc, cMod, cDiv, fDiv, fSub, fPow, cPow, fAdd, fMul, vStore, vFinS, ixN, fLst, fTup, fLen, lenD, fAbs, fMax2, fMin2, fInt, fNeg, fIsN, D.isN, fIsi, D.ty?, fEq, eqD, D.sv, vNot, vAnd, vOr, vNotT, vAndT, vOrT, vChain, fIn, vAsg, gvTup, gvCons, gvName, gvNil, LIM, scal, flatV, vItems, itemsA, D.items?, vLc, lcFin, restE, wipeE, vsOk, depOk, chkO, chars_fz, fAll, vPar, two, fList, vFor, vOpI, vTurn, vMeth, vFinM, mPopAt, mAppend, Out.bind_ok])]
    refine vSeq_rt ((vIfS_t (ρ1 := tE d2 (.int r1) (.int 2) none) (by simp [fnOf, begin_, fin, outs, vSeq, vIfS, vIf, vB, vOp, vCons, vVal, vSlot, vVar, vC, vNil, vFin, resAll, Arg.res, vIce, D.ice, ices, D.fz, fzs, vSet, vRet, vRetV, vNext, vExpr, vCall, vFinC, once, owned, putB, fIxA, ixA, ixD, D.seq?, atI0, atI1, fGt, fGe, fLe, fLt, fCmp, fI2, fI, fMod, fIc, cMod, cDiv, fDiv, fSub, fPow, cPow, fAdd, fMul, vStore, vFinS, ixN, fLst, fTup, fLen, lenD, fAbs, fMax2, fMin2, fInt, fNeg, fIsN, D.isN, fIsi, D.ty?, fEq, eqD, D.sv, vNot, vAnd, vOr, vNotT, vAndT, vOrT, vChain, fIn, vAsg, gvTup, gvCons, gvName, gvNil, LIM, scal, flatV, vItems, itemsA, D.items?, vLc, lcFin, restE, wipeE, vsOk, depOk, chkO, chars_fz, fAll, vPar, two, fList, vFor, vOpI, vTurn, vMeth, vFinM, mPopAt, mAppend, Out.bind_ok])).trans (vRet_eq ?_))
    refine (vCall_eq (ρ1 := tE d2 (.int r1) (.int 2) none) (as := [.slot 0, .val (.lst true ys)]) (ds := [d2, .lst true ys]) ?_ rfl (by simp [once, owned, h2.fz]) em rfl).trans ?_
    · exact vCons_eq (vSlot_eq rfl) (vCons_eq (vVal_eq ey) rfl)
    · simp [putB, owned, h2.fz, D.fz]
  · obtain ⟨ys, ey, ty⟩ := lc3 (d := d2) (st := .int r1) (fm := .int 3) fun i hi => form3 a1 b1 hi
    obtain ⟨d3, zs, em, h3, l3, m3⟩ := mixed_ok (o := true) (xs := ys) h2 ty.fz (by rw [ty.len]; decide)
    refine ⟨d3, .int r1, .int 3, zs, ?_, h3, ty.of l3 m3⟩
    rw [vSeq_nx (ρ' := tE d2 (.int r1) (.int 3) none) (by simp [fnOf, begin_, fin, outs, vSeq, vIfS, vIf, vB, vOp, vCons, vVal, vSlot, vVar, vC, vNil, vFin, resAll, Arg.res, vIce, D.ice, ices, D.fz, fzs, vSet, vRet, vRetV, vNext, vExpr, vCall, vFinC, once, owned, putB, fIxA, ixA, ixD, D.seq?, atI0, atI1, fGt, fGe, fLe, fLt, fCmp, fI2, fI, fMod, fIc, cMod, cDiv, fDiv, fSub, fPow, cPow, fAdd, fMul, vStore, vFinS, ixN, fLst, fTup, fLen, lenD, fAbs, fMax2, fMin2, fInt, fNeg, fIsN, D.isN, fIsi, D.ty?, fEq, eqD, D.sv, vNot, vAnd, vOr, vNotT, vAndT, vOrT, vChain, fIn, vAsg, gvTup, gvCons, gvName, gvNil, LIM, scal, flatV, vItems, itemsA, D.items?, vLc, lcFin, restE, wipeE, vsOk, depOk, chkO, chars_fz, fAll, vPar, two, fList, vFor, vOpI, vTurn, vMeth, vFinM, mPopAt, mAppend, Out.bind_ok]), vSeq_nx (ρ' := tE d2 (.int r1) (.int 3) none) (by simp [fnOf, begin_, fin, outs, vSeq, vIfS, vIf, vB, vOp, vCons, vVal, vSlot, vVar, vC, vNil, vFin, resAll, Arg.res, vIce, D.ice, ices, D.fz, fzs, vSet, vRet, vRetV, vNext, vExpr, vCall, vFinC, once, owned, putB, fIxA, ixA, ixD, D.seq?, atI0, atI1, fGt, fGe, fLe, fLt, fCmp, fI2, fI, fMod, fIc, cMod, cDiv, fDiv, fSub, fPow, cPow, fAdd, fMul, vStore, vFinS, ixN, fLst, fTup, fLen, lenD, fAbs, fMax2, fMin2, fInt, fNeg, fIsN, D.isN, fIsi, D.ty?, fEq, eqD, D.sv, vNot, vAnd, vOr, vNotT, vAndT, vOrT, vChain, fIn, vAsg, gvTup, gvCons, gvName, gvNil, LIM, scal, flatV, vItems, itemsA, D.items?, vLc, lcFin, restE, wipeE, vsOk, depOk, chkO, chars_fz, fAll, vPar, two, fList, vFor, vOpI, vTurn, vMeth, vFinM, mPopAt, mAppend, Out.bind_ok]), vSeq_nx (ρ' := tE d2 (.int r1) (.int 3) none) (by simp [fnOf, begin_, fin, outs, vSeq, vIfS, vIf, vB, vOp, vCons, vVal, vSlot, vVar, vC, vNil, vFin, resAll, Arg.res, vIce, D.ice, ices, D.fz, fzs, vSet, vRet, vRetV, vNext, vExpr, vCall, vFinC, once, owned, putB, fIxA, ixA, ixD, D.seq?, atI0, atI1, fGt, fGe, fLe, fLt, fCmp, fI2, fI, fMod, fIc, cMod, cDiv, fDiv, fSub, fPow, cPow, fAdd, fMul, vStore, vFinS, ixN, fLst, fTup, fLen, lenD, fAbs, fMax2, fMin2, fInt, fNeg, fIsN, D.isN, fIsi, D.ty?, fEq, eqD, D.sv, vNot, vAnd, vOr, vNotT, vAndT, vOrT, vChain, fIn, vAsg, gvTup, gvCons, gvName, gvNil, LIM, scal, flatV, vItems, itemsA, D.items?, vLc, lcFin, restE, wipeE, vsOk, depOk, chkO, chars_fz, fAll, vPar, two, fList, vFor, vOpI, vTurn, vMeth, vFinM, mPopAt, mAppend, Out.bind_ok]), vSeq_nx (ρ' := tE d2 (.int r1) (.int 3) none) (by simp [fnOf, begin_, fin, outs, vSeq, vIfS, vIf, vB, vOp, vCons, vVal, vSlot, vVar, vC, vNil, vFin, resAll, Arg.res, vIce, D.ice, ices, D.fz, fzs, vSet, vRet, vRetV, vNext, vExpr, vCall, vFinC, once, owned, putB, fIxA, ixA, ixD, D.seq?, atI0, atI1, fGt, fGe, fLe, fLt, fCmp, fI2, fI, fMod, fIc, cMod, cDiv, fDiv, fSub, fPow, cPow, fAdd, fMul, vStore, vFinS, ixN, fLst, fTup, fLen, lenD, fAbs, fMax2, fMin2, fInt, fNeg, fIsN, D.isN, fIsi, D.ty?, fEq, eqD, D.sv, vNot, vAnd, vOr, vNotT, vAndT, vOrT, vChain, fIn, vAsg, gvTup, gvCons, gvName, gvNil, LIM, scal, flatV, vItems, itemsA, D.items?, vLc, lcFin, restE, wipeE, vsOk, depOk, chkO, chars_fz, fAll, vPar, two, fList, vFor, vOpI, vTurn, vMeth, vFinM, mPopAt, mAppend, Out.bind_ok])]
    refine vRet_eq ?_
    refine (vCall_eq (ρ1 := tE d2 (.int r1) (.int 3) none) (as := [.slot 0, .val (.lst true ys)]) (ds := [d2, .lst true ys]) ?_ rfl (by simp [once, owned, h2.fz]) em rfl).trans ?_
    · exact vCons_eq (vSlot_eq rfl) (vCons_eq (vVal_eq ey) rfl)
    · simp [putB, owned, h2.fz, D.fz]
theorem titles_ok {d : D} (h : Fd d) : ∃ d' ys, f_titles [d, .int 3] = .ok ([d', .int 3], .lst true ys) ∧ Fd d' ∧ Tt ys := by
  obtain ⟨d', st, fm, ys, e, h', t⟩ := titles_run h
  refine ⟨d', ys, fnOf_rt rfl e ?_, h', t⟩
  simp [outs, h.fz, D.fz]
end Law

set_option Elab.async false
set_option linter.all false
set_option maxRecDepth 100000
set_option maxHeartbeats 2000000
/-! K2h: things. -/
namespace Law
open PySem L2 EV
inductive Th : D → Prop
  | non : Th .non
  | bl (b : Bool) : Th (.bl b)
  | int (i : Int) : Th (.int i)
  | str (z : Str) (h : z.length ≤ 100) : Th (.str z)
  | tup (xs : List D) (h : fzs xs = true) : Th (.tup true xs)
theorem Th.fz {x : D} (h : Th x) : x.fz = true := by cases h <;> first | rfl | (rw [D.fz]; assumption)
abbrev hE (a b c d e f g h : Option D) : EV.Env := [a, b, c, d, e, f, g, h]
theorem odd_at {r : Int} (h0 : 0 ≤ r) (h1 : r < 11) : ∃ c, atI (Str.ofString "aZ0_ .'$-z9").cps.toList r = some c := by
  obtain ⟨n, rfl⟩ := Int.eq_ofNat_of_zero_le h0
  have hl : (Str.ofString "aZ0_ .'$-z9").cps.toList.length = 11 := by decide +kernel
  have hn : n < (Str.ofString "aZ0_ .'$-z9").cps.toList.length := by omega
  exact ⟨_, by rw [atI_nat, List.getElem?_eq_getElem hn]⟩
theorem deep8 {a b c d e x : D} (hx : Th x) : ∃ y g, Th y ∧ vFor ([6] ++ [5]) (vOpI rng1 (vCons (vVal (vC (.int (8)))) vNil)) (gvName 6) (vSet 5 (vOp fTup (vCons (vKeep (vVar 5)) vNil))) (hE (some a) (some b) (some c) (some d) (some e) (some x) none none) = .ok (hE (some a) (some b) (some c) (some d) (some e) (some y) g none, .nx) := by
  have q : vOpI rng1 (vCons (vVal (vC (.int (8)))) vNil) (hE (some a) (some b) (some c) (some d) (some e) (some x) none none) = .ok (hE (some a) (some b) (some c) (some d) (some e) (some x) none none, rangeD 0 8, none) := vOpI_eq (as := [.val (.int 8)]) (ds := [.int 8]) rfl rfl (rng1_nat (n := 8) (by decide))
  rw [vFor_eq q rfl]
  obtain ⟨ρ', e', y, g, hy, rfl⟩ := vLoop_run (chk := chkO none) (step := vTurn (gvName 6) (vSet 5 (vOp fTup (vCons (vKeep (vVar 5)) vNil)))) (I := fun _ ρ => ∃ y g, Th y ∧ ρ = hE (some a) (some b) (some c) (some d) (some e) (some y) g none) (rangeD 0 8) [] (hE (some a) (some b) (some c) (some d) (some e) (some x) none none) ⟨x, none, hx, rfl⟩ fun dd m p ρ hI => by
    obtain ⟨y, g, hy, rfl⟩ := hI
    refine ⟨hE (some a) (some b) (some c) (some d) (some e) (some (.tup true [y])) (some dd) none, ?_, ⟨.tup true [y], some dd, .tup [y] (by rw [fzs, hy.fz]; rfl), rfl⟩, rfl⟩
    simp [fnOf, begin_, fin, outs, vSeq, vIfS, vIf, vB, vOp, vCons, vVal, vSlot, vVar, vC, vNil, vFin, resAll, Arg.res, vIce, D.ice, ices, D.fz, fzs, vSet, vRet, vRetV, vNext, vExpr, vCall, vFinC, once, owned, putB, fIxA, ixA, ixD, D.seq?, atI0, atI1, fGt, fGe, fLe, fLt, fCmp, fI2, fI, fMod, fIc, cMod, cDiv, fDiv, fSub, fPow, cPow, fAdd, fMul, vStore, vFinS, ixN, fLst, fTup, fLen, lenD, fAbs, fMax2, fMin2, fInt, fNeg, fIsN, D.isN, fIsi, D.ty?, fEq, eqD, D.sv, vNot, vAnd, vOr, vNotT, vAndT, vOrT, vChain, fIn, vAsg, gvTup, gvCons, gvName, gvNil, LIM, scal, flatV, vItems, itemsA, D.items?, vLc, lcFin, restE, wipeE, vsOk, depOk, chkO, chars_fz, fAll, vPar, two, fList, vFor, vOpI, vTurn, vMeth, vFinM, mPopAt, mAppend, Out.bind_ok, hy.fz, D.ice_id hy.fz]
  exact ⟨y, g, hy, e'⟩
theorem thing_run {d : D} {t : Str} (h : Fd d) (ht : t.length ≤ 20) : ∃ d' a b c e f g x, v_thing (begin_ 2 8 [d, .str t]) = .ok (hE (some d') (some (.str t)) a b c e f g, .rt x) ∧ Fd d' ∧ Th x := by
  obtain ⟨d1, r1, e1, h1, a1, b1⟩ := take_ok h (m := (t.length : Int) + 1) (by omega) (by omega)
  obtain ⟨d2, r2, e2, h2, a2, b2⟩ := take_ok h1 (m := 11) (by decide) (by decide)
  obtain ⟨c, hc⟩ := odd_at a2 b2
  have tl : t.length ≤ 10000000 := by omega
  have ol : (Str.ofString "aZ0_ .'$-z9").length = 11 := by decide +kernel
  have s1 : vSet 2 (vCall f_take (vCons (vSlot 0) (vCons (vVal (vOp fAdd (v2 (vVal (vOp fLen (vCons (vSlot 1) vNil))) (vVal (vC (.int (1))))))) vNil))) (begin_ 2 8 [d, .str t]) = .ok (hE (some d1) (some (.str t)) (some (.int r1)) none none none none none, .nx) := by
    simp [fnOf, begin_, fin, outs, vSeq, vIfS, vIf, vB, vOp, vCons, vVal, vSlot, vVar, vC, vNil, vFin, resAll, Arg.res, vIce, D.ice, ices, D.fz, fzs, vSet, vRet, vRetV, vNext, vExpr, vCall, vFinC, once, owned, putB, fIxA, ixA, ixD, D.seq?, atI0, atI1, fGt, fGe, fLe, fLt, fCmp, fI2, fI, fMod, fIc, cMod, cDiv, fDiv, fSub, fPow, cPow, fAdd, fMul, vStore, vFinS, ixN, fLst, fTup, fLen, lenD, fAbs, fMax2, fMin2, fInt, fNeg, fIsN, D.isN, fIsi, D.ty?, fEq, eqD, D.sv, vNot, vAnd, vOr, vNotT, vAndT, vOrT, vChain, fIn, vAsg, gvTup, gvCons, gvName, gvNil, LIM, scal, flatV, vItems, itemsA, D.items?, vLc, lcFin, restE, wipeE, vsOk, depOk, chkO, chars_fz, fAll, vPar, two, fList, vFor, vOpI, vTurn, vMeth, vFinM, mPopAt, mAppend, Out.bind_ok, tl, e1, h.fz, h1.fz]
  have s2 : vSet 3 (vOp fIxA (v2 (vVal (vC (.str "aZ0_ .'$-z9"))) (vVal (vCall f_take (vCons (vSlot 0) (vCons (vVal (vC (.int (11)))) vNil)))))) (hE (some d1) (some (.str t)) (some (.int r1)) none none none none none) = .ok (hE (some d2) (some (.str t)) (some (.int r1)) (some (.str ⟨#[c]⟩)) none none none none, .nx) := by
    simp [fnOf, begin_, fin, outs, vSeq, vIfS, vIf, vB, vOp, vCons, vVal, vSlot, vVar, vC, vNil, vFin, resAll, Arg.res, vIce, D.ice, ices, D.fz, fzs, vSet, vRet, vRetV, vNext, vExpr, vCall, vFinC, once, owned, putB, fIxA, ixA, ixD, D.seq?, atI0, atI1, fGt, fGe, fLe, fLt, fCmp, fI2, fI, fMod, fIc, cMod, cDiv, fDiv, fSub, fPow, cPow, fAdd, fMul, vStore, vFinS, ixN, fLst, fTup, fLen, lenD, fAbs, fMax2, fMin2, fInt, fNeg, fIsN, D.isN, fIsi, D.ty?, fEq, eqD, D.sv, vNot, vAnd, vOr, vNotT, vAndT, vOrT, vChain, fIn, vAsg, gvTup, gvCons, gvName, gvNil, LIM, scal, flatV, vItems, itemsA, D.items?, vLc, lcFin, restE, wipeE, vsOk, depOk, chkO, chars_fz, fAll, vPar, two, fList, vFor, vOpI, vTurn, vMeth, vFinM, mPopAt, mAppend, Out.bind_ok, e2, h1.fz, h2.fz, ol, hc]
  generalize hA : cutS t none (some r1) = A
  generalize hB : cutS t (some r1) none = B
  generalize hC : cutS t (some (r1 + 1)) none = C
  have lA : A.length ≤ 20 := by rw [← hA]; exact Nat.le_trans (cutS_length _ _ _) ht
  have lB : B.length ≤ 20 := by rw [← hB]; exact Nat.le_trans (cutS_length _ _ _) ht
  have lC : C.length ≤ 20 := by rw [← hC]; exact Nat.le_trans (cutS_length _ _ _) ht
  have ls : (⟨#[c]⟩ : Str).length = 1 := rfl
  have lab : (Str.ofString "abcdef").length = 6 := by decide +kernel
  have k1 : A.length + (⟨#[c]⟩ : Str).length ≤ 10000000 := by rw [ls]; omega
  have k2 : (A ++ (⟨#[c]⟩ : Str)).length + B.length ≤ 10000000 := by rw [PySem.strLen_append, ls]; omega
  have k3 : (A ++ (⟨#[c]⟩ : Str)).length + C.length ≤ 10000000 := by rw [PySem.strLen_append, ls]; omega
  have k4 : t.length + 6 ≤ 10000000 := by omega
  have s3 : vSet 4 (vOp fLst (vCons (vKeep (vVar 1)) (vCons (vKeep (vOp fAdd (v2 (vVal (vOp fAdd (v2 (vVal (vOp fSlB (v2 (vSlot 1) (vSlot 2)))) (vSlot 3)))) (vVal (vOp fSlA (v2 (vSlot 1) (vSlot 2))))))) (vCons (vKeep (vOp fAdd (v2 (vVal (vOp fAdd (v2 (vVal (vOp fSlB (v2 (vSlot 1) (vSlot 2)))) (vSlot 3)))) (vVal (vOp fSlA (v2 (vSlot 1) (vVal (vOp fAdd (v2 (vSlot 2) (vVal (vC (.int (1))))))))))))) (vCons (vKeep (vOp fSlA (v2 (vSlot 1) (vSlot 2)))) (vCons (vKeep (vC (.str ""))) (vCons (vKeep (vOp fAdd (v2 (vSlot 1) (vVal (vC (.str "abcdef")))))) vNil))))))) (hE (some d2) (some (.str t)) (some (.int r1)) (some (.str ⟨#[c]⟩)) none none none none) =
      .ok (hE (some d2) (some (.str t)) (some (.int r1)) (some (.str ⟨#[c]⟩)) (some (.lst true [.str t, .str (A ++ ⟨#[c]⟩ ++ B), .str (A ++ ⟨#[c]⟩ ++ C), .str B, .str "", .str (t ++ Str.ofString "abcdef")])) none none none, .nx) := by
    simp [fnOf, begin_, fin, outs, vSeq, vIfS, vIf, vB, vOp, vCons, vVal, vSlot, vVar, vC, vNil, vFin, resAll, Arg.res, vIce, D.ice, ices, D.fz, fzs, vSet, vRet, vRetV, vNext, vExpr, vCall, vFinC, once, owned, putB, fIxA, ixA, ixD, D.seq?, atI0, atI1, fGt, fGe, fLe, fLt, fCmp, fI2, fI, fMod, fIc, cMod, cDiv, fDiv, fSub, fPow, cPow, fAdd, fMul, vStore, vFinS, ixN, fLst, fTup, fLen, lenD, fAbs, fMax2, fMin2, fInt, fNeg, fIsN, D.isN, fIsi, D.ty?, fEq, eqD, D.sv, vNot, vAnd, vOr, vNotT, vAndT, vOrT, vChain, fIn, vAsg, gvTup, gvCons, gvName, gvNil, LIM, scal, flatV, vItems, itemsA, D.items?, vLc, lcFin, restE, wipeE, vsOk, depOk, chkO, chars_fz, fAll, vPar, two, fList, vFor, vOpI, vTurn, vMeth, vFinM, mPopAt, mAppend, Out.bind_ok, fSlA, fSlB, slD, tl, hA, hB, hC, k1, k2, k3, k4, lab]
  have s4 : vSet 5 (vVar 1) (hE (some d2) (some (.str t)) (some (.int r1)) (some (.str ⟨#[c]⟩)) (some (.lst true [.str t, .str (A ++ ⟨#[c]⟩ ++ B), .str (A ++ ⟨#[c]⟩ ++ C), .str B, .str "", .str (t ++ Str.ofString "abcdef")])) none none none) = .ok (hE (some d2) (some (.str t)) (some (.int r1)) (some (.str ⟨#[c]⟩)) (some (.lst true [.str t, .str (A ++ ⟨#[c]⟩ ++ B), .str (A ++ ⟨#[c]⟩ ++ C), .str B, .str "", .str (t ++ Str.ofString "abcdef")])) (some (.str t)) none none, .nx) := by
    simp [fnOf, begin_, fin, outs, vSeq, vIfS, vIf, vB, vOp, vCons, vVal, vSlot, vVar, vC, vNil, vFin, resAll, Arg.res, vIce, D.ice, ices, D.fz, fzs, vSet, vRet, vRetV, vNext, vExpr, vCall, vFinC, once, owned, putB, fIxA, ixA, ixD, D.seq?, atI0, atI1, fGt, fGe, fLe, fLt, fCmp, fI2, fI, fMod, fIc, cMod, cDiv, fDiv, fSub, fPow, cPow, fAdd, fMul, vStore, vFinS, ixN, fLst, fTup, fLen, lenD, fAbs, fMax2, fMin2, fInt, fNeg, fIsN, D.isN, fIsi, D.ty?, fEq, eqD, D.sv, vNot, vAnd, vOr, vNotT, vAndT, vOrT, vChain, fIn, vAsg, gvTup, gvCons, gvName, gvNil, LIM, scal, flatV, vItems, itemsA, D.items?, vLc, lcFin, restE, wipeE, vsOk, depOk, chkO, chars_fz, fAll, vPar, two, fList, vFor, vOpI, vTurn, vMeth, vFinM, mPopAt, mAppend, Out.bind_ok]
  obtain ⟨y, g, hy, s5⟩ := deep8 (a := d2) (b := .str t) (c := .int r1) (d := .str ⟨#[c]⟩) (e := .lst true [.str t, .str (A ++ ⟨#[c]⟩ ++ B), .str (A ++ ⟨#[c]⟩ ++ C), .str B, .str "", .str (t ++ Str.ofString "abcdef")]) (.str t (by omega))
  obtain ⟨d3, r3, e3, h3, a3, b3⟩ := take_ok h2 (m := 19) (by decide) (by decide)
  have lu : t.length ≤ 5592405 := by omega
  have L : ∀ x ∈ ([.str t, .str (A ++ ⟨#[c]⟩ ++ B), .str (A ++ ⟨#[c]⟩ ++ C), .str B, .str "", .str (t ++ Str.ofString "abcdef"), .tup true [.str t], y, .int 0, .int 1, .bl true, .bl false, .non, .int 100000000000000000000, .int (-7), .tup true [.tup true [.str t, .int 1], .non], .str "a.1", .str "a b", .str (Txt.upper t)] : List D), Th x := fun x m => by
    simp only [List.mem_cons, List.not_mem_nil, or_false] at m
    rcases m with rfl | rfl | rfl | rfl | rfl | rfl | rfl | rfl | rfl | rfl | rfl | rfl | rfl | rfl | rfl | rfl | rfl | rfl | rfl
    · exact .str _ (by omega)
    · exact .str _ (by rw [PySem.strLen_append, PySem.strLen_append, ls]; omega)
    · exact .str _ (by rw [PySem.strLen_append, PySem.strLen_append, ls]; omega)
    · exact .str _ (by omega)
    · exact .str _ (by decide +kernel)
    · exact .str _ (by rw [PySem.strLen_append, lab]; omega)
    · exact .tup _ rfl
    · exact hy
    · exact .int _
    · exact .int _
    · exact .bl _
    · exact .bl _
    · exact .non
    · exact .int _
    · exact .int _
    · exact .tup _ rfl
    · exact .str _ (by decide +kernel)
    · exact .str _ (by decide +kernel)
    · exact .str _ (by have := PyProof.Rows.len_upper t; omega)
  obtain ⟨x, ex, mx⟩ := atI_mem (xs := ([.str t, .str (A ++ ⟨#[c]⟩ ++ B), .str (A ++ ⟨#[c]⟩ ++ C), .str B, .str "", .str (t ++ Str.ofString "abcdef"), .tup true [.str t], y, .int 0, .int 1, .bl true, .bl false, .non, .int 100000000000000000000, .int (-7), .tup true [.tup true [.str t, .int 1], .non], .str "a.1", .str "a b", .str (Txt.upper t)] : List D)) a3 (by simpa using b3)
  have tx := L x mx
  refine ⟨d3, some (.int r1), some (.str ⟨#[c]⟩), some (.lst true [.str t, .str (A ++ ⟨#[c]⟩ ++ B), .str (A ++ ⟨#[c]⟩ ++ C), .str B, .str "", .str (t ++ Str.ofString "abcdef")]), some y, g, some (.lst true [.tup true [.str t], y, .int 0, .int 1, .bl true, .bl false, .non, .int 100000000000000000000, .int (-7), .tup true [.tup true [.str t, .int 1], .non], .str "a.1", .str "a b", .str (Txt.upper t)]), x, ?_, h3, tx⟩
  unfold v_thing
  rw [vSeq_nx s1, vSeq_nx s2, vSeq_nx s3, vSeq_nx s4, vSeq_nx s5]
  simp [fnOf, begin_, fin, outs, vSeq, vIfS, vIf, vB, vOp, vCons, vVal, vSlot, vVar, vC, vNil, vFin, resAll, Arg.res, vIce, D.ice, ices, D.fz, fzs, vSet, vRet, vRetV, vNext, vExpr, vCall, vFinC, once, owned, putB, fIxA, ixA, ixD, D.seq?, atI0, atI1, fGt, fGe, fLe, fLt, fCmp, fI2, fI, fMod, fIc, cMod, cDiv, fDiv, fSub, fPow, cPow, fAdd, fMul, vStore, vFinS, ixN, fLst, fTup, fLen, lenD, fAbs, fMax2, fMin2, fInt, fNeg, fIsN, D.isN, fIsi, D.ty?, fEq, eqD, D.sv, vNot, vAnd, vOr, vNotT, vAndT, vOrT, vChain, fIn, vAsg, gvTup, gvCons, gvName, gvNil, LIM, scal, flatV, vItems, itemsA, D.items?, vLc, lcFin, restE, wipeE, vsOk, depOk, chkO, chars_fz, fAll, vPar, two, fList, vFor, vOpI, vTurn, vMeth, vFinM, mPopAt, mAppend, Out.bind_ok, fUpper, lu, hy.fz, D.ice_id hy.fz, e3, h2.fz, h3.fz, ex, tx.fz]
theorem thing_ok {d : D} {t : Str} (h : Fd d) (ht : t.length ≤ 20) : ∃ d' x, f_thing [d, .str t] = .ok ([d', .str t], x) ∧ Fd d' ∧ Th x := by
  obtain ⟨d', a, b, c, e, f, g, x, er, h', tx⟩ := thing_run h ht
  refine ⟨d', x, fnOf_rt rfl er ?_, h', tx⟩
  simp [outs, h.fz, D.fz]
end Law

set_option Elab.async false
set_option linter.all false
set_option maxRecDepth 100000
set_option maxHeartbeats 2000000
/-! K2i: in_order. -/
namespace Law
open PySem L2 EV
/-- a value's key -/
def kk : D → List Key
  | .non => [.inl 0, .inl 0, .inr ""]
  | .bl b => [.inl 3, .inl (if b then 1 else 0), .inr ""]
  | .int i => [.inl 1, .inl i, .inr ""]
  | .str z => [.inl 2, .inl 0, .inr z]
  | _ => []
theorem rk_kk {x : D} (h : Val x) : rk x = ktD (kk x) := by cases h <;> rfl
theorem kk_keys {x : D} (h : Val x) : ∃ ks, rk x = .tup true ks ∧ keysD ks = some (kk x) := by
  cases h <;> exact ⟨_, rfl, rfl⟩
theorem kk_inj {x y : D} (hx : Val x) (hy : Val y) : decide (kk x = kk y) = sm x y := by
  cases hx <;> cases hy <;> simp [kk, sm]
  rename_i a b
  cases a <;> cases b <;> decide
theorem sm_eq {x y : D} (hx : Val x) (hy : Val y) : sm x y = true ↔ x = y := by
  cases hx <;> cases hy <;> simp [sm]
/-- each value once, at its first place -/
def addU (acc : List D) (x : D) : List D := if acc.any fun y => sm y x then acc else acc ++ [x]
def uni (xs : List D) : List D := xs.foldl addU []
theorem putD_u {acc : List D} {x : D} (ha : ∀ y ∈ acc, Val y) (hx : Val x) : putD (acc.map fun y => (kk y, y)) (kk x) x = (addU acc x).map fun y => (kk y, y) := by
  have e : ((acc.map fun y => (kk y, y)).any fun kv => decide (kv.1 = kk x)) = acc.any fun y => sm y x := by
    rw [List.any_map]
    induction acc with
    | nil => rfl
    | cons y acc ih =>
      rw [List.any_cons, List.any_cons, ih fun z m => ha z (List.mem_cons_of_mem _ m)]
      exact congrArg (· || _) (kk_inj (ha y List.mem_cons_self) hx)
  unfold putD addU
  rw [e]
  split
  · rw [List.map_map]
    refine List.map_congr_left fun y m => ?_
    dsimp only [Function.comp]
    split
    · rename_i hk
      have : sm y x = true := by rw [← kk_inj (ha y m) hx]; exact decide_eq_true hk
      rw [(sm_eq (ha y m) hx).mp this]
    · rfl
  · rw [List.map_append]
    rfl
theorem addU_val {acc : List D} {x : D} (ha : ∀ y ∈ acc, Val y) (hx : Val x) : ∀ y ∈ addU acc x, Val y := by
  unfold addU
  split
  · exact ha
  · intro y m
    rcases List.mem_append.mp m with m | m
    · exact ha y m
    · have : y = x := by simpa using m
      rw [this]; exact hx
theorem fold_u : ∀ {xs acc : List D}, (∀ y ∈ acc, Val y) → (∀ x ∈ xs, Val x) → xs.foldl (fun a d => putD a (kk d) d) (acc.map fun y => (kk y, y)) = (xs.foldl addU acc).map fun y => (kk y, y)
  | [], acc, _, _ => rfl
  | x :: xs, acc, ha, hx => by
    rw [List.foldl_cons, List.foldl_cons, putD_u ha (hx x List.mem_cons_self)]
    exact fold_u (addU_val ha (hx x List.mem_cons_self)) fun y m => hx y (List.mem_cons_of_mem _ m)
theorem uni_val : ∀ {xs acc : List D}, (∀ y ∈ acc, Val y) → (∀ x ∈ xs, Val x) → ∀ y ∈ xs.foldl addU acc, Val y
  | [], _, ha, _ => ha
  | x :: xs, acc, ha, hx => by
    rw [List.foldl_cons]
    exact uni_val (addU_val ha (hx x List.mem_cons_self)) fun y m => hx y (List.mem_cons_of_mem _ m)
theorem uni_len : ∀ {xs acc : List D}, (xs.foldl addU acc).length ≤ acc.length + xs.length
  | [], acc => Nat.le_refl _
  | x :: xs, acc => by
    rw [List.foldl_cons, List.length_cons]
    have h1 := uni_len (xs := xs) (acc := addU acc x)
    have h2 : (addU acc x).length ≤ acc.length + 1 := by
      unfold addU
      split
      · omega
      · rw [List.length_append]; exact Nat.le_refl _
    omega
theorem addU_nd {acc : List D} {x : D} (ha : ∀ y ∈ acc, Val y) (hx : Val x) (hn : acc.Nodup) : (addU acc x).Nodup := by
  unfold addU
  split
  · exact hn
  · rename_i h
    refine List.nodup_append.mpr ⟨hn, by simp, fun a m b m' e => ?_⟩
    have : b = x := by simpa using m'
    subst this
    subst e
    exact h (List.any_eq_true.mpr ⟨a, m, (sm_eq (ha a m) hx).mpr rfl⟩)
theorem uni_nd : ∀ {xs acc : List D}, (∀ y ∈ acc, Val y) → (∀ x ∈ xs, Val x) → acc.Nodup → (xs.foldl addU acc).Nodup
  | [], _, _, _, hn => hn
  | x :: xs, acc, ha, hx, hn => by
    rw [List.foldl_cons]
    exact uni_nd (addU_val ha (hx x List.mem_cons_self)) (fun y m => hx y (List.mem_cons_of_mem _ m)) (addU_nd ha (hx x List.mem_cons_self) hn)
end Law

set_option Elab.async false
set_option linter.all false
set_option maxRecDepth 100000
set_option maxHeartbeats 2000000
/-! K2j: in_order, the whole. -/
namespace Law
open PySem L2 EV
theorem vDc_eq {vs : List Nat} {I : VI} {G : VG} {T : VT} {F F' : VE} {ρ ρ1 ρ2 : EV.Env} {xs : List D} {ys : List (List Key × D)} {dep : Dep} (h : I ρ = .ok (ρ1, xs, dep)) (h1 : vsOk ρ1 vs = true) (h2 : depOk dep vs = true) (h3 : dLoop (chkO dep) (dTurn vs G T F F') xs [] (wipeE ρ1 vs) = .ok (ρ2, ys)) : vDc vs I G T F F' ρ = .ok (restE ρ1 ρ2 vs, .dt true ys) := by
  unfold vDc
  rw [h]
  simp only [Out.bind_ok, h1, h2, Bool.and_self, if_true, h3, dcFin]
/-- what in_order may be given -/
structure Giv (c : D) (xs : List D) : Prop where
  it : c.items? = some xs
  ok : c = .lst true xs ∨ c = .tup true xs
theorem dturn_ok {c x : D} (hx : Val x) : dTurn [2] (gvName 2) vTrue (vCall f_rank (vCons (vSlot 2) vNil)) (vVar 2) x [some c, none, none, none] = .ok ([some c, none, none, none], some (kk x, x)) := by
  obtain ⟨ks, e1, e2⟩ := kk_keys hx
  have hr := rank_ok hx
  rw [e1] at hr
  have fk : fzs ks = true := fzs_all.mpr fun d m => keysD_fz e2 d m
  have ik := ices_id fk
  simp [dTurn, vTrue, fnOf, begin_, fin, outs, vSeq, vIfS, vIf, vB, vOp, vCons, vVal, vSlot, vVar, vC, vNil, vFin, resAll, Arg.res, vIce, D.ice, ices, D.fz, fzs, vSet, vRet, vRetV, vNext, vExpr, vCall, vFinC, once, owned, putB, fIxA, ixA, ixD, D.seq?, atI0, atI1, fGt, fGe, fLe, fLt, fCmp, fI2, fI, fMod, fIc, cMod, cDiv, fDiv, fSub, fPow, cPow, fAdd, fMul, vStore, vFinS, ixN, fLst, fTup, fLen, lenD, fAbs, fMax2, fMin2, fInt, fNeg, fIsN, D.isN, fIsi, D.ty?, fEq, eqD, D.sv, vNot, vAnd, vOr, vNotT, vAndT, vOrT, vChain, fIn, vAsg, gvTup, gvCons, gvName, gvNil, LIM, scal, flatV, vItems, itemsA, D.items?, vLc, lcFin, restE, wipeE, vsOk, depOk, chkO, chars_fz, fAll, vPar, two, fList, vFor, vOpI, vTurn, vMeth, vFinM, mPopAt, mAppend, Out.bind_ok, hr, e2, ik, hx.fz, D.ice_id hx.fz]
noncomputable def rr (a b : D) : Bool := leD (rk a) (rk b)
theorem srt_keys {us : List D} (h : ∀ u ∈ us, Val u) : srtOk (us.map fun u => ktP (kk u)) = true := by
  have al : ∀ u ∈ us, ∀ v ∈ us, PySem.W.alike (ktP (kk u)) (ktP (kk v)) = true := fun u hu v hv => by
    cases h u hu <;> cases h v hv <;> simp [ktP, kk, keyP, PySem.W.alike, PySem.W.alikeAll]
  unfold srtOk
  rw [Bool.and_eq_true, Bool.and_eq_true, Bool.or_eq_true]
  refine ⟨List.all_eq_true.mpr fun p hp => ?_, .inl (List.all_eq_true.mpr fun p hp => ?_), List.all_eq_true.mpr fun p hp => ?_⟩
  · obtain ⟨u, hu, rfl⟩ := List.mem_map.mp hp
    refine List.all_eq_true.mpr fun q hq => ?_
    obtain ⟨v, hv, rfl⟩ := List.mem_map.mp hq
    exact al u hu v hv
  · obtain ⟨u, hu, rfl⟩ := List.mem_map.mp hp
    cases h u hu <;> rfl
  · obtain ⟨u, hu, rfl⟩ := List.mem_map.mp hp
    cases h u hu <;> simp [ktP, kk, keyP, PyData.depth, PyData.depthAll]
theorem val_at {us : List D} (h : ∀ u ∈ us, Val u) {u : D} (hu : u ∈ us) : valD (us.map fun y => (kk y, y)) (kk u) = some u := by
  induction us with
  | nil => cases hu
  | cons y us ih =>
    unfold valD
    rw [List.map_cons, List.find?_cons]
    by_cases e : kk y = kk u
    · have : sm y u = true := by rw [← kk_inj (h y List.mem_cons_self) (h u hu)]; exact decide_eq_true e
      rw [(sm_eq (h y List.mem_cons_self) (h u hu)).mp this]
      simp
    · rw [decide_eq_false e]
      dsimp only
      rcases List.mem_cons.mp hu with rfl | hu
      · exact absurd rfl e
      · exact ih (fun z m => h z (List.mem_cons_of_mem _ m)) hu
theorem inorder_ok {c : D} {xs : List D} (hc : Giv c xs) (hv : ∀ x ∈ xs, Val x) (hl : xs.length ≤ 100) : f_inorder [c] = .ok ([c], .lst true ((uni xs).mergeSort rr)) := by
  have fx : fzs xs = true := fzs_all.mpr fun x m => (hv x m).fz
  have uv : ∀ u ∈ uni xs, Val u := uni_val (fun _ m => nomatch m) hv
  have ul : (uni xs).length ≤ 100 := by
    have := uni_len (xs := xs) (acc := [])
    simp at this
    unfold uni
    omega
  have ck : chkO (if c.fz then none else some (0, c)) [some c, none, none, none] = true := by
    cases c.fz
    · show chkS 0 c _ = true
      simp [chkS]
    · rfl
  have dp : ∀ vs, 0 ∉ vs → depOk (if c.fz then none else some (0, c)) vs = true := fun vs h => by
    cases c.fz
    · exact decide_eq_true h
    · rfl
  have s1 : vSet 1 (vDc [2] (vItems (vSlot 0)) (gvName 2) vTrue (vCall f_rank (vCons (vSlot 2) vNil)) (vVar 2)) (begin_ 1 4 [c]) = .ok ([some c, some (.dt true ((uni xs).map fun y => (kk y, y))), none, none], .nx) := by
    refine vSet_eq (ρ1 := [some c, none, none, none]) ?_ (by simp)
    refine vDc_eq (ρ1 := [some c, none, none, none]) (ρ2 := [some c, none, none, none]) (vItems_slot (d := c) rfl hc.it fx) rfl (dp _ (by decide)) ?_
    refine (dLoop_run (k := kk) (y := fun d => d) xs [] (by show 0 + xs.length ≤ 10000000; omega) ck fun d m => dturn_ok (hv d m)).trans ?_
    exact congrArg (fun l => Out.ok (_, l)) (fold_u (acc := []) (fun _ m => nomatch m) hv)
  have ef : fSorted [.dt true ((uni xs).map fun y => (kk y, y))] = some (.lst true (((uni xs).mergeSort rr).map rk)) := by
    have e1 : ((uni xs).map fun y => (kk y, y)).map (fun p => ktP p.1) = (uni xs).map fun u => ktP (kk u) := by rw [List.map_map]; rfl
    have e2 : ((uni xs).map fun y => (kk y, y)).map (fun p => ktD p.1) = (uni xs).map rk := by
      rw [List.map_map]
      exact List.map_congr_left fun u m => (rk_kk (uv u m)).symm
    unfold fSorted
    dsimp only
    rw [e1, if_pos (srt_keys uv), e2]
    refine congrArg (fun l => some (D.lst true l)) ?_
    exact (List.map_mergeSort (r := rr) (s := leD) (f := rk) (l := uni xs) fun a _ b _ => rfl).symm
  have mem : ∀ u, u ∈ (uni xs).mergeSort rr → u ∈ uni xs := fun u m => (List.mergeSort_perm _ _).mem_iff.mp m
  have fr : fzs (((uni xs).mergeSort rr).map rk) = true := fzs_all.mpr fun d m => by
    obtain ⟨u, mu, rfl⟩ := List.mem_map.mp m
    cases uv u (mem u mu) <;> rfl
  refine fnOf_rt (ρ' := [some c, some (.dt true ((uni xs).map fun y => (kk y, y))), none, none]) rfl ?_ ?_
  · unfold v_inorder
    rw [vSeq_nx s1]
    refine vRet_eq ?_
    refine vLc_eq (ρ1 := [some c, some (.dt true ((uni xs).map fun y => (kk y, y))), none, none]) (ρ2 := [some c, some (.dt true ((uni xs).map fun y => (kk y, y))), none, none]) (vItems_val (vOp_eq (as := [.slot 1]) (ds := [.dt true ((uni xs).map fun y => (kk y, y))]) rfl rfl ef) rfl fr) rfl rfl ?_
    refine (cLoop_pure (y := fun d => match d with | .tup true ks => (keysD ks).bind fun k => valD ((uni xs).map fun y => (kk y, y)) k | _ => none) _ (by rw [List.length_map, (List.mergeSort_perm _ _).length_eq]; show _ ≤ 10000000; omega) rfl fun d m => ?_).trans ?_
    · obtain ⟨u, mu, rfl⟩ := List.mem_map.mp m
      have hu := uv u (mem u mu)
      obtain ⟨ks, e1, e2⟩ := kk_keys hu
      rw [e1]
      have va := val_at uv (mem u mu)
      have fk : fzs ks = true := fzs_all.mpr fun d m => keysD_fz e2 d m
      simp [cTurn, vTrue, fnOf, begin_, fin, outs, vSeq, vIfS, vIf, vB, vOp, vCons, vVal, vSlot, vVar, vC, vNil, vFin, resAll, Arg.res, vIce, D.ice, ices, D.fz, fzs, vSet, vRet, vRetV, vNext, vExpr, vCall, vFinC, once, owned, putB, fIxA, ixA, ixD, D.seq?, atI0, atI1, fGt, fGe, fLe, fLt, fCmp, fI2, fI, fMod, fIc, cMod, cDiv, fDiv, fSub, fPow, cPow, fAdd, fMul, vStore, vFinS, ixN, fLst, fTup, fLen, lenD, fAbs, fMax2, fMin2, fInt, fNeg, fIsN, D.isN, fIsi, D.ty?, fEq, eqD, D.sv, vNot, vAnd, vOr, vNotT, vAndT, vOrT, vChain, fIn, vAsg, gvTup, gvCons, gvName, gvNil, LIM, scal, flatV, vItems, itemsA, D.items?, vLc, lcFin, restE, wipeE, vsOk, depOk, chkO, chars_fz, fAll, vPar, two, fList, vFor, vOpI, vTurn, vMeth, vFinM, mPopAt, mAppend, Out.bind_ok, e2, va, hu.fz, D.ice_id hu.fz]
    · rw [List.flatMap_map]
      refine congrArg (fun l => Out.ok (_, l)) ?_
      have : ∀ l : List D, (∀ u ∈ l, u ∈ uni xs) → l.flatMap (fun a => (match rk a with | .tup true ks => (keysD ks).bind fun k => valD ((uni xs).map fun y => (kk y, y)) k | _ => none).toList) = l := fun l => by
        induction l with
        | nil => intro _; rfl
        | cons u l ih =>
          intro hl
          rw [List.flatMap_cons, ih fun v m => hl v (List.mem_cons_of_mem _ m)]
          obtain ⟨ks, e1, e2⟩ := kk_keys (uv u (hl u List.mem_cons_self))
          rw [e1]
          dsimp only
          rw [e2, Option.bind_some, val_at uv (hl u List.mem_cons_self)]
          rfl
      exact this _ mem
  · rcases hc.ok with rfl | rfl <;> simp [outs, D.fz, fx]
end Law

set_option Elab.async false
set_option linter.all false
set_option maxRecDepth 100000
set_option maxHeartbeats 2000000
/-! K2k: the law's own order is the same. -/
namespace Law
open PySem L2 EV PySem.W
def pr (z : D × Nat) : D := .tup true [rk z.1, .int (z.2 : Nat)]
theorem pr_pd {u : D} {i : Nat} (h : Val u) : (pr (u, i)).pd = .tuple [(rk u).pd, .int (i : Nat)] := by cases h <;> rfl
theorem eqv_rk {u v : D} (hu : Val u) (hv : Val v) : PyData.eqv (rk u).pd (rk v).pd = sm u v := by
  cases hu <;> cases hv <;> simp [rk, D.pd, D.toP, toPs, PyData.eqv, PyData.eqvAll, sm]
  · rename_i a b
    cases a <;> cases b <;> decide
  · rw [Bool.eq_iff_iff, beq_iff_eq, decide_eq_true_eq]
  · rw [Bool.eq_iff_iff, beq_iff_eq, decide_eq_true_eq]
theorem alike_rk {u v : D} (hu : Val u) (hv : Val v) : alike (rk u).pd (rk v).pd = true := by
  cases hu <;> cases hv <;> simp [rk, D.pd, D.toP, toPs, alike, alikeAll]
theorem le_pr {u v : D} {i j : Nat} (hu : Val u) (hv : Val v) : leD (pr (u, i)) (pr (v, j)) = if sm v u = true then decide (i ≤ j) else rr u v := by
  show (!dataLt (pr (v, j)).pd (pr (u, i)).pd) = _
  rw [pr_pd hu, pr_pd hv, dataLt_pair (alike_rk hv hu) (by simp [alike]), eqv_rk hv hu]
  by_cases e : sm v u = true
  · rw [if_pos e, if_pos e, dataLt_int]
    have ee : PyData.eqv (.int (j : Int)) (.int (i : Int)) = decide (j = i) := by
      rw [PyData.eqv, Bool.eq_iff_iff, beq_iff_eq, decide_eq_true_eq]
      omega
    by_cases h : j = i
    · rw [if_pos (by rw [ee]; exact decide_eq_true h), decide_eq_true (by omega)]
      rfl
    · rw [if_neg (by rw [ee]; simpa using h)]
      by_cases h2 : i ≤ j
      · rw [decide_eq_true h2, decide_eq_false (by omega)]; rfl
      · rw [decide_eq_false h2, decide_eq_true (by omega)]; rfl
  · rw [if_neg e, if_neg e]
    rfl
theorem rr_refl {u : D} (hu : Val u) : rr u u = true := by
  show (!dataLt (rk u).pd (rk u).pd) = true
  unfold dataLt
  rw [PyProof.Rows.lex_irrefl]
  rfl
theorem due_sort {us : List D} (hv : ∀ u ∈ us, Val u) (hn : us.Nodup) : ∃ zs : List (D × Nat), (us.zipIdx.map pr).mergeSort leD = zs.map pr ∧ zs.map (·.1) = us.mergeSort rr ∧ ∀ z ∈ zs, us[z.2]? = some z.1 := by
  have zi : ∀ z ∈ us.zipIdx, us[z.2]? = some z.1 := fun z m => List.mem_zipIdx_iff_getElem?.mp m
  have zv : ∀ z ∈ us.zipIdx, Val z.1 := fun z m => hv _ (List.mem_of_getElem? (zi z m))
  refine ⟨us.zipIdx.mergeSort fun a b => leD (pr a) (pr b), (List.map_mergeSort (r := fun a b => leD (pr a) (pr b)) (s := leD) (f := pr) (l := us.zipIdx) fun a _ b _ => rfl).symm, ?_, fun z m => zi z ((List.mergeSort_perm _ _).mem_iff.mp m)⟩
  have e : us.zipIdx.map (·.1) = us := List.zipIdx_map_fst 0 us
  have := List.map_mergeSort (r := fun a b => leD (pr a) (pr b)) (s := rr) (f := (·.1)) (l := us.zipIdx) fun a ma b mb => by
    show leD (pr (a.1, a.2)) (pr (b.1, b.2)) = _
    rw [le_pr (zv a ma) (zv b mb)]
    by_cases h0 : sm b.1 a.1 = true
    · rw [if_pos h0]
      have h : a.1 = b.1 := ((sm_eq (zv b mb) (zv a ma)).mp h0).symm
      have h1 := zi a ma
      have h2 := zi b mb
      rw [h] at h1
      have : a.2 = b.2 := by
        obtain ⟨p1, q1⟩ := List.getElem?_eq_some_iff.mp h1
        obtain ⟨p2, q2⟩ := List.getElem?_eq_some_iff.mp h2
        exact (List.getElem_inj hn).mp (q1.trans q2.symm)
      rw [this, h, decide_eq_true (Nat.le_refl _), rr_refl (zv b mb)]
    · rw [if_neg h0]
  rw [e] at this
  exact this
end Law

set_option Elab.async false
set_option linter.all false
set_option maxRecDepth 100000
set_option maxHeartbeats 2000000
/-! K2l: the first feed. -/
namespace Law
open PySem L2 EV
theorem small_log {n : Nat} (h : n < 2 ^ 64) : n.log2 < 64 := PySem.Flt.log2_lt_of (k := 64) (by decide) h
theorem feed_tail {a : D} {b : Option D} {cell : Int} {k : Nat} (hk : k < 3) (hc : 0 ≤ cell) : ∃ o d, vSeq (vSet 3 (vC (.int (0)))) (vSeq (vIfS (vB (vOp fGe (v2 (vSlot 2) (vVal (vOp fPow (v2 (vVal (vC (.int (10)))) (vVal (vC (.int (18)))))))))) (vSet 3 (vVar 2)) vNext)
    (vRet (vOp fLst (vCons (vKeep (vVar 3)) (vCons (vKeep (vOp fAdd (v2 (vVal (vOp fMod (v2 (vVal (vOp fAdd (v2 (vVal (vOp fMul (v2 (vVal (vOp fMod (v2 (vSlot 2) (vVal (vC (.int (2147483629))))))) (vVal (vC (.int (48271))))))) (vVal (vOp fMul (v2 (vVal (vC (.int (50021)))) (vSlot 1))))))) (vVal (vC (.int (2147483629))))))) (vVal (vC (.int (1))))))) vNil))))) [some a, some (.int k), some (.int cell), b] = .ok ([some a, some (.int k), some (.int cell), o], .rt d) ∧ Fd d := by
  have l1 : (cell % 2147483629).natAbs.log2 < 64 := small_log (by omega)
  have l2 : (k : Int).natAbs.log2 < 64 := small_log (by omega)
  have e1 : Nat.log2 48271 = 15 := by decide +kernel
  have e2 : Nat.log2 50021 = 15 := by decide +kernel
  have m1 : (cell % 2147483629).natAbs.log2 + 15 < 1000000 := by omega
  have m2 : 15 + k.log2 < 1000000 := by
    have : k.log2 < 64 := by simpa using l2
    omega
  by_cases hb : (1000000000000000000 : Int) ≤ cell
  · refine ⟨some (.int cell), feed cell ((cell % 2147483629 * 48271 + 50021 * k) % 2147483629 + 1), ?_, ⟨_, _, rfl, hc, by omega, by omega⟩⟩
    simp [fnOf, begin_, fin, outs, vSeq, vIfS, vIf, vB, vOp, vCons, vVal, vSlot, vVar, vC, vNil, vFin, resAll, Arg.res, vIce, D.ice, ices, D.fz, fzs, vSet, vRet, vRetV, vNext, vExpr, vCall, vFinC, once, owned, putB, fIxA, ixA, ixD, D.seq?, atI0, atI1, fGt, fGe, fLe, fLt, fCmp, fI2, fI, fMod, fIc, cMod, cDiv, fDiv, fSub, fPow, cPow, fAdd, fMul, vStore, vFinS, ixN, fLst, fTup, fLen, lenD, fAbs, fMax2, fMin2, fInt, fNeg, fIsN, D.isN, fIsi, D.ty?, fEq, eqD, D.sv, vNot, vAnd, vOr, vNotT, vAndT, vOrT, vChain, fIn, vAsg, gvTup, gvCons, gvName, gvNil, LIM, scal, flatV, vItems, itemsA, D.items?, vLc, lcFin, restE, wipeE, vsOk, depOk, chkO, chars_fz, fAll, vPar, two, fList, vFor, vOpI, vTurn, vMeth, vFinM, mPopAt, mAppend, Out.bind_ok, hb, e1, e2, m1, m2]
  · refine ⟨some (.int 0), feed 0 ((cell % 2147483629 * 48271 + 50021 * k) % 2147483629 + 1), ?_, ⟨_, _, rfl, by omega, by omega, by omega⟩⟩
    simp [fnOf, begin_, fin, outs, vSeq, vIfS, vIf, vB, vOp, vCons, vVal, vSlot, vVar, vC, vNil, vFin, resAll, Arg.res, vIce, D.ice, ices, D.fz, fzs, vSet, vRet, vRetV, vNext, vExpr, vCall, vFinC, once, owned, putB, fIxA, ixA, ixD, D.seq?, atI0, atI1, fGt, fGe, fLe, fLt, fCmp, fI2, fI, fMod, fIc, cMod, cDiv, fDiv, fSub, fPow, cPow, fAdd, fMul, vStore, vFinS, ixN, fLst, fTup, fLen, lenD, fAbs, fMax2, fMin2, fInt, fNeg, fIsN, D.isN, fIsi, D.ty?, fEq, eqD, D.sv, vNot, vAnd, vOr, vNotT, vAndT, vOrT, vChain, fIn, vAsg, gvTup, gvCons, gvName, gvNil, LIM, scal, flatV, vItems, itemsA, D.items?, vLc, lcFin, restE, wipeE, vsOk, depOk, chkO, chars_fz, fAll, vPar, two, fList, vFor, vOpI, vTurn, vMeth, vFinM, mPopAt, mAppend, Out.bind_ok, hb, e1, e2, m1, m2]
theorem scr_at {ns : List Int} {i : Nat} (h : i < ns.length) : fIxA [.scr ns, .int (i : Nat)] = some (.int ns[i]) := by
  show ixD (.scr ns) (i : Nat) = _
  unfold ixD
  dsimp only [D.seq?]
  rw [Option.bind_some, atI_nat, List.getElem?_map, List.getElem?_eq_getElem h]
  rfl
theorem feed_ok {ns : List Int} {k : Nat} (hk : k < 3) : ∃ d, f_feed [.scr ns, .int (k : Nat)] = .ok ([.scr ns, .int (k : Nat)], d) ∧ Fd d := by
  have l2 : k.log2 < 64 := small_log (by omega)
  have e1 : Nat.log2 7621 = 12 := by decide +kernel
  have m1 : 12 + k.log2 < 1000000 := by omega
  have s1 : vSet 2 (vOp fAdd (v2 (vVal (vOp fMul (v2 (vVal (vC (.int (7621)))) (vSlot 1)))) (vVal (vC (.int (10313)))))) (begin_ 2 4 [.scr ns, .int (k : Nat)]) = .ok ([some (.scr ns), some (.int k), some (.int (7621 * k + 10313)), none], .nx) := by
    simp [fnOf, begin_, fin, outs, vSeq, vIfS, vIf, vB, vOp, vCons, vVal, vSlot, vVar, vC, vNil, vFin, resAll, Arg.res, vIce, D.ice, ices, D.fz, fzs, vSet, vRet, vRetV, vNext, vExpr, vCall, vFinC, once, owned, putB, fIxA, ixA, ixD, D.seq?, atI0, atI1, fGt, fGe, fLe, fLt, fCmp, fI2, fI, fMod, fIc, cMod, cDiv, fDiv, fSub, fPow, cPow, fAdd, fMul, vStore, vFinS, ixN, fLst, fTup, fLen, lenD, fAbs, fMax2, fMin2, fInt, fNeg, fIsN, D.isN, fIsi, D.ty?, fEq, eqD, D.sv, vNot, vAnd, vOr, vNotT, vAndT, vOrT, vChain, fIn, vAsg, gvTup, gvCons, gvName, gvNil, LIM, scal, flatV, vItems, itemsA, D.items?, vLc, lcFin, restE, wipeE, vsOk, depOk, chkO, chars_fz, fAll, vPar, two, fList, vFor, vOpI, vTurn, vMeth, vFinM, mPopAt, mAppend, Out.bind_ok, e1, m1]
  have mid : ∃ cell : Int, 0 ≤ cell ∧ vIfS (vB (vOp fLt (v2 (vSlot 1) (vVal (vOp fLen (vCons (vSlot 0) vNil)))))) (vSet 2 (vOp fAbs (vCons (vVal (vOp fIxA (v2 (vSlot 0) (vSlot 1)))) vNil))) (vIfS (vB (vOp fGt (v2 (vVal (vOp fLen (vCons (vSlot 0) vNil))) (vVal (vC (.int (0))))))) (vSet 2 (vOp fAdd (v2 (vVal (vOp fMul (v2 (vVal (vOp fMod (v2 (vVal (vOp fAbs (vCons (vVal (vOp fIxA (v2 (vSlot 0) (vVal (vOp fMod (v2 (vSlot 1) (vVal (vOp fLen (vCons (vSlot 0) vNil))))))))) vNil))) (vVal (vC (.int (2147483629))))))) (vVal (vC (.int (37))))))) (vVal (vOp fMul (v2 (vVal (vC (.int (8513)))) (vSlot 1))))))) vNext) [some (.scr ns), some (.int k), some (.int (7621 * k + 10313)), none] = .ok ([some (.scr ns), some (.int k), some (.int cell), none], .nx) := by
    by_cases h : k < ns.length
    · have h' : (k : Int) < ns.length := by omega
      refine ⟨if ns[k] < 0 then -ns[k] else ns[k], by split <;> omega, ?_⟩
      have ix := scr_at h
      simp [fnOf, begin_, fin, outs, vSeq, vIfS, vIf, vB, vOp, vCons, vVal, vSlot, vVar, vC, vNil, vFin, resAll, Arg.res, vIce, D.ice, ices, D.fz, fzs, vSet, vRet, vRetV, vNext, vExpr, vCall, vFinC, once, owned, putB, D.seq?, atI0, atI1, fGt, fGe, fLe, fLt, fCmp, fI2, fI, fMod, fIc, cMod, cDiv, fDiv, fSub, fPow, cPow, fAdd, fMul, vStore, vFinS, ixN, fLst, fTup, fLen, lenD, fAbs, fMax2, fMin2, fInt, fNeg, fIsN, D.isN, fIsi, D.ty?, fEq, eqD, D.sv, vNot, vAnd, vOr, vNotT, vAndT, vOrT, vChain, fIn, vAsg, gvTup, gvCons, gvName, gvNil, LIM, scal, flatV, vItems, itemsA, D.items?, vLc, lcFin, restE, wipeE, vsOk, depOk, chkO, chars_fz, fAll, vPar, two, fList, vFor, vOpI, vTurn, vMeth, vFinM, mPopAt, mAppend, Out.bind_ok, h, h', ix]
    · have h' : ¬ (k : Int) < ns.length := by omega
      by_cases h0 : 0 < ns.length
      · have h0' : (0 : Int) < ns.length := by omega
        have hm : k % ns.length < ns.length := Nat.mod_lt _ h0
        have ix := scr_at hm
        have e2 : ((k : Int) % (ns.length : Int)) = ((k % ns.length : Nat) : Int) := by omega
        generalize ns[k % ns.length] = v at ix
        generalize hw : (if v < 0 then -v else v) = w
        have hw0 : 0 ≤ w := by rw [← hw]; split <;> omega
        have ab : fAbs [.int v] = some (.int w) := by rw [← hw]; rfl
        refine ⟨w % 2147483629 * 37 + 8513 * k, by omega, ?_⟩
        have l3 : Nat.log2 37 = 5 := by decide +kernel
        have l4 : Nat.log2 8513 = 13 := by decide +kernel
        have m3 : (w % 2147483629).natAbs.log2 + 5 < 1000000 := by have := small_log (n := (w % 2147483629).natAbs) (by omega); omega
        have m4 : 13 + k.log2 < 1000000 := by omega
        have ix' : fIxA [.scr ns, .int ((k : Int) % (ns.length : Int))] = some (.int v) := by rw [e2]; exact ix
        simp [fnOf, begin_, fin, outs, vSeq, vIfS, vIf, vB, vOp, vCons, vVal, vSlot, vVar, vC, vNil, vFin, resAll, Arg.res, vIce, D.ice, ices, D.fz, fzs, vSet, vRet, vRetV, vNext, vExpr, vCall, vFinC, once, owned, putB, D.seq?, atI0, atI1, fGt, fGe, fLe, fLt, fCmp, fI2, fI, fMod, fIc, cMod, cDiv, fDiv, fSub, fPow, cPow, fAdd, fMul, vStore, vFinS, ixN, fLst, fTup, fLen, lenD, fMax2, fMin2, fInt, fNeg, fIsN, D.isN, fIsi, D.ty?, fEq, eqD, D.sv, vNot, vAnd, vOr, vNotT, vAndT, vOrT, vChain, fIn, vAsg, gvTup, gvCons, gvName, gvNil, LIM, scal, flatV, vItems, itemsA, D.items?, vLc, lcFin, restE, wipeE, vsOk, depOk, chkO, chars_fz, fAll, vPar, two, fList, vFor, vOpI, vTurn, vMeth, vFinM, mPopAt, mAppend, Out.bind_ok, h, h', h0, h0', ix', ab, l3, l4, m3, m4]
      · have hz : ns = [] := by cases ns with | nil => rfl | cons => simp at h0
        subst hz
        refine ⟨7621 * k + 10313, by omega, ?_⟩
        have hk0 : ¬ (k : Int) < 0 := by omega
        simp [fnOf, begin_, fin, outs, vSeq, vIfS, vIf, vB, vOp, vCons, vVal, vSlot, vVar, vC, vNil, vFin, resAll, Arg.res, vIce, D.ice, ices, D.fz, fzs, vSet, vRet, vRetV, vNext, vExpr, vCall, vFinC, once, owned, putB, D.seq?, atI0, atI1, fGt, fGe, fLe, fLt, fCmp, fI2, fI, fMod, fIc, cMod, cDiv, fDiv, fSub, fPow, cPow, fAdd, fMul, vStore, vFinS, ixN, fLst, fTup, fLen, lenD, fAbs, fMax2, fMin2, fInt, fNeg, fIsN, D.isN, fIsi, D.ty?, fEq, eqD, D.sv, vNot, vAnd, vOr, vNotT, vAndT, vOrT, vChain, fIn, vAsg, gvTup, gvCons, gvName, gvNil, LIM, scal, flatV, vItems, itemsA, D.items?, vLc, lcFin, restE, wipeE, vsOk, depOk, chkO, chars_fz, fAll, vPar, two, fList, vFor, vOpI, vTurn, vMeth, vFinM, mPopAt, mAppend, Out.bind_ok, hk0]
  obtain ⟨cell, hc, hs⟩ := mid
  obtain ⟨o, d, e, hd⟩ := feed_tail (a := .scr ns) (b := none) hk hc
  refine ⟨d, fnOf_rt (ρ' := [some (.scr ns), some (.int k), some (.int cell), o]) rfl ?_ rfl, hd⟩
  unfold v_feed
  rw [vSeq_nx s1, vSeq_nx hs]
  exact e
end Law

set_option Elab.async false
set_option linter.all false
set_option maxRecDepth 100000
set_option maxHeartbeats 2000000
/-! K2m: one thing. -/
namespace Law
open PySem L2 EV
/-- what the two tests of a thing say -/
def th1 : D → Bool
  | .str z => nm z
  | _ => false
def th2 : D → Bool
  | .str z => nm z
  | .non => true
  | .bl _ => true
  | .int _ => true
  | _ => false
def th0 : D → Bool
  | .non => true
  | .bl _ => true
  | .int _ => true
  | _ => false
theorem th_isname {x : D} (h : Th x) : f_isname [x] = .ok ([x], .bl (th1 x)) := by
  cases h with
  | non => exact isname_non
  | bl b => exact isname_bl
  | int i => exact isname_int
  | str z h => exact isname_str (by omega)
  | tup xs h => exact isname_tup h
theorem th_named {x : D} (h : Th x) : f_named [x] = .ok ([x], .bl (th1 x)) := by
  cases h with
  | non => exact named_non
  | bl b => exact named_bl
  | int i => exact named_int
  | str z h => exact named_str (by omega)
  | tup xs h => exact named_tup h
theorem th_isvalue {x : D} (h : Th x) : f_isvalue [x] = .ok ([x], .bl (th2 x)) := by
  cases h with
  | non => exact isvalue_non
  | bl b => exact isvalue_bl
  | int i => exact isvalue_int
  | str z h => exact isvalue_str (by omega)
  | tup xs h => exact isvalue_tup h
theorem two_okP {a b : Bool} : okP (.list [.bool a, .bool b]) = true := by cases a <;> cases b <;> decide +kernel
theorem same_two {a b : Bool} : f_same [.lst true [.bl a, .bl b], .lst true [.bl a, .bl b]] = .ok ([.lst true [.bl a, .bl b], .lst true [.bl a, .bl b]], .bl true) := by
  rw [same_ok (p := .list [.bool a, .bool b]) (q := .list [.bool a, .bool b]) rfl rfl two_okP two_okP]
  simp
abbrev lE (a b c d e f g h i j k : Option D) : EV.Env := [a, b, c, d, e, f, g, h, i, j, k, none, none, none]
theorem step_thing {sc k : D} {fd : D} {t e f g h i j o : Option D} (hf : Fd fd) : ∃ fd' x, Fd fd' ∧ Th x ∧ vSet 4 (vCall f_thing (vCons (vSlot 2) (vCons (vVal (vOp fIxA (v2 (vVal (vCall f_titles (vCons (vSlot 2) (vCons (vVal (vC (.int (3)))) vNil)))) (vVal (vCall f_take (vCons (vSlot 2) (vCons (vVal (vC (.int (3)))) vNil))))))) vNil))) (lE (some sc) (some k) (some fd) t e f g h i j o) = .ok (lE (some sc) (some k) (some fd') t (some x) f g h i j o, .nx) := by
  obtain ⟨d1, ys, e1, h1, ty⟩ := titles_ok hf
  obtain ⟨d2, r, e2, h2, a2, b2⟩ := take_ok h1 (m := 3) (by decide) (by decide)
  obtain ⟨y, ey, my⟩ := atI_mem (xs := ys) a2 (by rw [ty.len]; exact b2)
  obtain ⟨z, rfl, hz⟩ := ty.all y my
  obtain ⟨d3, x, e3, h3, tx⟩ := thing_ok h2 hz
  refine ⟨d3, x, h3, tx, ?_⟩
  simp [fnOf, begin_, fin, outs, vSeq, vIfS, vIf, vB, vOp, vCons, vVal, vSlot, vVar, vC, vNil, vFin, resAll, Arg.res, vIce, D.ice, ices, D.fz, fzs, vSet, vRet, vRetV, vNext, vExpr, vCall, vFinC, once, owned, putB, fIxA, ixA, ixD, D.seq?, atI0, atI1, fGt, fGe, fLe, fLt, fCmp, fI2, fI, fMod, fIc, cMod, cDiv, fDiv, fSub, fPow, cPow, fAdd, fMul, vStore, vFinS, ixN, fLst, fTup, fLen, lenD, fAbs, fMax2, fMin2, fInt, fNeg, fIsN, D.isN, fIsi, D.ty?, fEq, eqD, D.sv, vNot, vAnd, vOr, vNotT, vAndT, vOrT, vChain, fIn, vAsg, gvTup, gvCons, gvName, gvNil, LIM, scal, flatV, vItems, itemsA, D.items?, vLc, lcFin, restE, wipeE, vsOk, depOk, chkO, chars_fz, fAll, vPar, two, fList, vFor, vOpI, vTurn, vMeth, vFinM, mPopAt, mAppend, Out.bind_ok, e1, e2, e3, hf.fz, h1.fz, h2.fz, h3.fz, ey]
theorem step_plain {sc k fd x : D} {t f g h i j o : Option D} (hx : Th x) : vSet 5 (vOr (vOp (fIsN false) (v2 (vSlot 4) (vVal (vC .non)))) (vOp fIsi (vCons (vSlot 4) (vCons (vVal (vC (.ty "int"))) vNil)))) (lE (some sc) (some k) (some fd) t (some x) f g h i j o) = .ok (lE (some sc) (some k) (some fd) t (some x) (some (.bl (th0 x))) g h i j o, .nx) := by
  cases hx <;> simp +decide [fnOf, begin_, fin, outs, vSeq, vIfS, vIf, vB, vOp, vCons, vVal, vSlot, vVar, vC, vNil, vFin, resAll, Arg.res, vIce, D.ice, ices, D.fz, fzs, vSet, vRet, vRetV, vNext, vExpr, vCall, vFinC, once, owned, putB, fIxA, ixA, ixD, D.seq?, atI0, atI1, fGt, fGe, fLe, fLt, fCmp, fI2, fI, fMod, fIc, cMod, cDiv, fDiv, fSub, fPow, cPow, fAdd, fMul, vStore, vFinS, ixN, fLst, fTup, fLen, lenD, fAbs, fMax2, fMin2, fInt, fNeg, fIsN, D.isN, fIsi, D.ty?, fEq, eqD, D.sv, vNot, vAnd, vOr, vNotT, vAndT, vOrT, vChain, fIn, vAsg, gvTup, gvCons, gvName, gvNil, LIM, scal, flatV, vItems, itemsA, D.items?, vLc, lcFin, restE, wipeE, vsOk, depOk, chkO, chars_fz, fAll, vPar, two, fList, vFor, vOpI, vTurn, vMeth, vFinM, mPopAt, mAppend, Out.bind_ok, isa, isaT, th0]
theorem step_test {sc k fd x : D} {t g h i j o : Option D} (hx : Th x) : vIfS (vNotT (vB (vCall f_same (vCons (vVal (vOp fLst (vCons (vKeep (vCall f_isname (vCons (vSlot 4) vNil))) (vCons (vKeep (vCall f_isvalue (vCons (vSlot 4) vNil))) vNil)))) (vCons (vVal (vOp fLst (vCons (vKeep (vCall f_named (vCons (vSlot 4) vNil))) (vCons (vKeep (vOr (vVar 5) (vCall f_named (vCons (vSlot 4) vNil)))) vNil)))) vNil))))) (vRet (vC (.bl false))) vNext (lE (some sc) (some k) (some fd) t (some x) (some (.bl (th0 x))) g h i j o) = .ok (lE (some sc) (some k) (some fd) t (some x) (some (.bl (th0 x))) g h i j o, .nx) := by
  have e1 := th_isname hx
  have e2 := th_isvalue hx
  have e3 := th_named hx
  have e0 : (th0 x || th1 x) = th2 x := by cases hx <;> simp [th0, th1, th2]
  have sm2 := same_two (a := th1 x) (b := th2 x)
  cases h0 : th0 x
  · have e4 : th1 x = th2 x := by rw [← e0, h0]; simp
    rw [e4] at sm2
    simp [fnOf, begin_, fin, outs, vSeq, vIfS, vIf, vB, vOp, vCons, vVal, vSlot, vVar, vC, vNil, vFin, resAll, Arg.res, vIce, D.ice, ices, D.fz, fzs, vSet, vRet, vRetV, vNext, vExpr, vCall, vFinC, once, owned, putB, fIxA, ixA, ixD, D.seq?, atI0, atI1, fGt, fGe, fLe, fLt, fCmp, fI2, fI, fMod, fIc, cMod, cDiv, fDiv, fSub, fPow, cPow, fAdd, fMul, vStore, vFinS, ixN, fLst, fTup, fLen, lenD, fAbs, fMax2, fMin2, fInt, fNeg, fIsN, D.isN, fIsi, D.ty?, fEq, eqD, D.sv, vNot, vAnd, vOr, vNotT, vAndT, vOrT, vChain, fIn, vAsg, gvTup, gvCons, gvName, gvNil, LIM, scal, flatV, vItems, itemsA, D.items?, vLc, lcFin, restE, wipeE, vsOk, depOk, chkO, chars_fz, fAll, vPar, two, fList, vFor, vOpI, vTurn, vMeth, vFinM, mPopAt, mAppend, Out.bind_ok, e1, e2, e3, hx.fz, h0, e4, sm2]
  · have e4 : th2 x = true := by rw [← e0, h0]; simp
    rw [e4] at sm2
    simp [fnOf, begin_, fin, outs, vSeq, vIfS, vIf, vB, vOp, vCons, vVal, vSlot, vVar, vC, vNil, vFin, resAll, Arg.res, vIce, D.ice, ices, D.fz, fzs, vSet, vRet, vRetV, vNext, vExpr, vCall, vFinC, once, owned, putB, fIxA, ixA, ixD, D.seq?, atI0, atI1, fGt, fGe, fLe, fLt, fCmp, fI2, fI, fMod, fIc, cMod, cDiv, fDiv, fSub, fPow, cPow, fAdd, fMul, vStore, vFinS, ixN, fLst, fTup, fLen, lenD, fAbs, fMax2, fMin2, fInt, fNeg, fIsN, D.isN, fIsi, D.ty?, fEq, eqD, D.sv, vNot, vAnd, vOr, vNotT, vAndT, vOrT, vChain, fIn, vAsg, gvTup, gvCons, gvName, gvNil, LIM, scal, flatV, vItems, itemsA, D.items?, vLc, lcFin, restE, wipeE, vsOk, depOk, chkO, chars_fz, fAll, vPar, two, fList, vFor, vOpI, vTurn, vMeth, vFinM, mPopAt, mAppend, Out.bind_ok, e1, e2, e3, hx.fz, h0, e4, sm2]
end Law

set_option Elab.async false
set_option linter.all false
set_option maxRecDepth 100000
set_option maxHeartbeats 2000000
/-! K2n: the law's statements, one by one. -/
namespace Law
open PySem L2 EV
noncomputable def w0 : VS := (vSet 2 (vCall f_feed (vCons (vSlot 0) (vCons (vSlot 1) vNil))))
noncomputable def w1 : VS := (vFor ([3] ++ ([4] ++ ([5] ++ ([] ++ [])))) (vOpI rng1 (vCons (vVal (vC (.int (20)))) vNil)) (gvName 3) (vSeq (vSet 4 (vCall f_thing (vCons (vSlot 2) (vCons (vVal (vOp fIxA (v2 (vVal (vCall f_titles (vCons (vSlot 2) (vCons (vVal (vC (.int (3)))) vNil)))) (vVal (vCall f_take (vCons (vSlot 2) (vCons (vVal (vC (.int (3)))) vNil))))))) vNil))))
    (vSeq (vSet 5 (vOr (vOp (fIsN false) (v2 (vSlot 4) (vVal (vC .non)))) (vOp fIsi (vCons (vSlot 4) (vCons (vVal (vC (.ty "int"))) vNil)))))
    (vIfS (vNotT (vB (vCall f_same (vCons (vVal (vOp fLst (vCons (vKeep (vCall f_isname (vCons (vSlot 4) vNil))) (vCons (vKeep (vCall f_isvalue (vCons (vSlot 4) vNil))) vNil)))) (vCons (vVal (vOp fLst (vCons (vKeep (vCall f_named (vCons (vSlot 4) vNil))) (vCons (vKeep (vOr (vVar 5) (vCall f_named (vCons (vSlot 4) vNil)))) vNil)))) vNil))))) (vRet (vC (.bl false))) vNext))))
noncomputable def w2 : VS := (vSet 6 (vLc [3] (vOpI rng1 (vCons (vVal (vCall f_take (vCons (vSlot 2) (vCons (vVal (vC (.int (12)))) vNil)))) vNil)) (gvName 3) vTrue (vCall f_value (vCons (vSlot 2) vNil))))
noncomputable def w3 : VS := (vSet 7 (vOp fLst vNil))
noncomputable def w4 : VS := (vFor ([8] ++ ([] ++ [])) (vItems (vSlot 6)) (gvName 8) (vIfS (vB (vOp fEq (v2 (vVal (vLc [11] (vItems (vSlot 7)) (gvName 11) (vB (vCall f_same (vCons (vSlot 11) (vCons (vSlot 8) vNil)))) (vC (.int (1))))) (vVal (vOp fLst vNil))))) (vExpr (vMeth 7 mAppend (vCons (vKeep (vVar 8)) vNil))) vNext))
noncomputable def w5 : VS := (vSet 7 (vLc [12, 13] (vItems (vVal (vOp fSorted (vCons (vVal (vLc [13, 8] (vOpI fEnum (vCons (vKeep (vVar 7)) vNil)) (gvTup 2 (gvCons (gvName 13) (gvCons (gvName 8) gvNil))) vTrue (vOp fTup (vCons (vKeep (vCall f_lrank (vCons (vSlot 8) vNil))) (vCons (vKeep (vVar 13)) vNil))))) vNil)))) (gvTup 2 (gvCons (gvName 12) (gvCons (gvName 13) gvNil))) vTrue (vOp fIxA (v2 (vSlot 7) (vSlot 13)))))
noncomputable def w6 : VS := (vSet 9 (vIf (vB (vOp fEq (v2 (vVal (vCall f_take (vCons (vSlot 2) (vCons (vVal (vC (.int (2)))) vNil)))) (vVal (vC (.int (0))))))) (vOp fTuple (vCons (vSlot 6) vNil)) (vOp fList (vCons (vSlot 6) vNil))))
noncomputable def w7 : VS := (vIfS (vNotT (vB (vCall f_same (vCons (vVal (vCall f_inorder (vCons (vSlot 9) vNil))) (vCons (vSlot 7) vNil))))) (vRet (vC (.bl false))) vNext)
noncomputable def w8 : VS := (vFor ([10] ++ (([] ++ []) ++ ([] ++ []))) (vItems (vSlot 6)) (gvName 10) (vSeq (vIfS (vNotT (vB (vCall f_same (vCons (vVal (vCall f_show (vCons (vSlot 10) vNil))) (vCons (vVal (vCall f_text (vCons (vSlot 10) vNil))) vNil))))) (vRet (vC (.bl false))) vNext)
    (vIfS (vNotT (vB (vCall f_same (vCons (vVal (vLc [11] (vItems (vSlot 6)) (gvName 11) vTrue (vCall f_issame (vCons (vSlot 10) (vCons (vSlot 11) vNil))))) (vCons (vVal (vLc [11] (vItems (vSlot 6)) (gvName 11) vTrue (vCall f_same (vCons (vSlot 10) (vCons (vSlot 11) vNil))))) vNil))))) (vRet (vC (.bl false))) vNext)))
noncomputable def wB : VS := (vSeq w0 (vSeq w1 (vSeq w2 (vSeq w3 (vSeq w4 (vSeq w5 (vSeq w6 (vSeq w7 w8))))))))
theorem v_law_eq : v_law = vSeq (vFor ([1] ++ ([2] ++ (([3] ++ ([4] ++ ([5] ++ ([] ++ [])))) ++ ([6] ++ ([7] ++ (([8] ++ ([] ++ [])) ++ ([7] ++ ([9] ++ (([] ++ []) ++ ([10] ++ (([] ++ []) ++ ([] ++ [])))))))))))) (vOpI rng1 (vCons (vVal (vOp fMax2 (vCons (vVal (vC (.int (1)))) (vCons (vVal (vOp fMin2 (vCons (vVal (vC (.int (3)))) (vCons (vVal (vOp fLen (vCons (vSlot 0) vNil))) vNil)))) vNil)))) vNil)) (gvName 1) wB) (vRet (vC (.bl true))) := rfl
end Law

set_option Elab.async false
set_option linter.all false
set_option maxRecDepth 100000
set_option maxHeartbeats 1000000
/-! EVk: what a reading by values comes to. -/
namespace EV
open PySem L2
def Wp {α : Type} (o : Out α) (Q : α → Prop) : Prop := ∃ a, o = .ok a ∧ Q a
theorem Wp.congr {α : Type} {o o' : Out α} {Q : α → Prop} (h : o = o') : Wp o Q = Wp o' Q := by rw [h]
theorem wp_ok {α : Type} {a : α} {Q : α → Prop} : Wp (.ok a) Q ↔ Q a := ⟨fun ⟨b, e, q⟩ => by cases e; exact q, fun q => ⟨a, rfl, q⟩⟩
theorem wp_bind {α β : Type} {x : Out α} {f : α → Out β} {Q : β → Prop} : Wp (x.bind f) Q ↔ Wp x fun a => Wp (f a) Q := by
  constructor
  · rintro ⟨b, e, q⟩
    cases x with
    | ok a => exact ⟨a, rfl, b, e, q⟩
    | exc => cases e
    | bad => cases e
  · rintro ⟨a, rfl, b, e, q⟩
    exact ⟨b, e, q⟩
theorem Wp.mono {α : Type} {o : Out α} {Q Q' : α → Prop} (h : Wp o Q) (k : ∀ a, Q a → Q' a) : Wp o Q' := let ⟨a, e, q⟩ := h; ⟨a, e, k a q⟩
theorem Wp.of {α : Type} {o : Out α} {a : α} {Q : α → Prop} (h : o = .ok a) (q : Q a) : Wp o Q := ⟨a, h, q⟩
/-- the end of a body -/
def fnQ (W : List Nat) (ds : List D) (Q : List D × D → Prop) : Env × Ctl → Prop
  | (ρ, .rt r) => ∃ ps, outs W ρ 0 ds = some ps ∧ Q (ps, r)
  | (ρ, .nx) => ∃ ps, outs W ρ 0 ds = some ps ∧ Q (ps, .non)
  | _ => False
theorem wp_fn {n N : Nat} {W : List Nat} {F : VS} {ds : List D} {Q : List D × D → Prop} (hl : ds.length = n) (h : Wp (F (begin_ n N ds)) (fnQ W ds Q)) : Wp (fnOf n N W F ds) Q := by
  obtain ⟨⟨ρ, c⟩, e, q⟩ := h
  unfold fnOf
  rw [if_pos hl, e]
  cases c with
  | rt r => obtain ⟨ps, h1, h2⟩ := q; exact ⟨(ps, r), by simp [fin, h1], h2⟩
  | nx => obtain ⟨ps, h1, h2⟩ := q; exact ⟨(ps, .non), by simp [fin, h1], h2⟩
  | bk => exact q.elim
  | ct => exact q.elim
/-- one statement, then the rest -/
def seqQ (G : VS) (Q : Env × Ctl → Prop) : Env × Ctl → Prop
  | (ρ, .nx) => Wp (G ρ) Q
  | q => Q q
theorem wp_seq {F G : VS} {ρ : Env} {Q : Env × Ctl → Prop} : Wp (vSeq F G ρ) Q ↔ Wp (F ρ) (seqQ G Q) := by
  unfold vSeq
  rw [wp_bind]
  constructor
  · rintro ⟨⟨ρ', c⟩, e, q⟩
    refine ⟨_, e, ?_⟩
    cases c <;> first | exact q | exact (wp_ok (Q := Q)).mp q
  · rintro ⟨⟨ρ', c⟩, e, q⟩
    refine ⟨_, e, ?_⟩
    cases c <;> first | exact q | exact (wp_ok (Q := Q)).mpr q
theorem seqQ_nx {G : VS} {Q : Env × Ctl → Prop} {ρ : Env} : seqQ G Q (ρ, .nx) ↔ Wp (G ρ) Q := Iff.rfl
theorem seqQ_rt {G : VS} {Q : Env × Ctl → Prop} {ρ : Env} {d : D} : seqQ G Q (ρ, .rt d) ↔ Q (ρ, .rt d) := Iff.rfl
theorem fnQ_rt {W : List Nat} {ds : List D} {Q : List D × D → Prop} {ρ : Env} {r : D} : fnQ W ds Q (ρ, .rt r) ↔ ∃ ps, outs W ρ 0 ds = some ps ∧ Q (ps, r) := Iff.rfl
/-- if -/
theorem wp_ifS {T : VT} {F G : VS} {ρ : Env} {Q : Env × Ctl → Prop} : Wp (vIfS T F G ρ) Q ↔ Wp (T ρ) fun q => if q.2 = true then Wp (F q.1) Q else Wp (G q.1) Q := by
  unfold vIfS
  rw [wp_bind]
  constructor
  · rintro ⟨⟨ρ', c⟩, e, q⟩
    refine ⟨_, e, ?_⟩
    cases c <;> exact q
  · rintro ⟨⟨ρ', c⟩, e, q⟩
    refine ⟨_, e, ?_⟩
    cases c <;> exact q
/-- a loop's turn -/
def turnQ (chk : Env → Bool) (J : Env → Prop) (Q : Env × Ctl → Prop) : Env × Ctl → Prop
  | (ρ, .nx) => J ρ ∧ chk ρ = true
  | (ρ, .ct) => J ρ ∧ chk ρ = true
  | (ρ, .bk) => Q (ρ, .nx)
  | (ρ, .rt r) => Q (ρ, .rt r)
theorem wp_loop {chk : Env → Bool} {step : D → VS} {J : List D → Env → Prop} {T : List D} {Q : Env × Ctl → Prop} : ∀ (xs pre : List D) (ρ : Env), pre ++ xs = T → J pre ρ → (∀ p d q ρ, T = p ++ d :: q → J p ρ → Wp (step d ρ) (turnQ chk (J (p ++ [d])) Q)) → (∀ ρ, J T ρ → Q (ρ, .nx)) → Wp (vLoop chk step xs ρ) Q
  | [], pre, ρ, e, h, _, k => wp_ok.mpr (k ρ (by rw [List.append_nil] at e; rw [← e]; exact h))
  | d :: ds, pre, ρ, e, h, hs, k => by
    obtain ⟨⟨ρ1, c⟩, e1, h1⟩ := hs pre d ds ρ e.symm h
    unfold vLoop
    rw [e1, Out.bind_ok]
    have go := fun (z : J (pre ++ [d]) ρ1) => wp_loop (chk := chk) (step := step) (J := J) (T := T) (Q := Q) ds (pre ++ [d]) ρ1 (by rw [← e, List.append_assoc]; rfl) z hs k
    cases c with
    | nx => obtain ⟨a, b⟩ := h1; simp only [b, if_true]; exact go a
    | ct => obtain ⟨a, b⟩ := h1; simp only [b, if_true]; exact go a
    | bk => exact wp_ok.mpr h1
    | rt r => exact wp_ok.mpr h1
theorem wp_for {W : List Nat} {I : VI} {G : VG} {F : VS} {ρ ρ1 : Env} {T : List D} {dep : Dep} {Q : Env × Ctl → Prop} (J : List D → Env → Prop) (h : I ρ = .ok (ρ1, T, dep)) (hd : depOk dep W = true) (h0 : J [] ρ1)
    (hs : ∀ p d q ρ, T = p ++ d :: q → J p ρ → Wp (vTurn G F d ρ) (turnQ (chkO dep) (J (p ++ [d])) Q)) (he : ∀ ρ, J T ρ → Q (ρ, .nx)) : Wp (vFor W I G F ρ) Q := by
  rw [vFor_eq h hd]
  exact wp_loop T [] ρ1 rfl h0 hs he
/-- a comprehension -/
theorem wp_cloop {chk : Env → Bool} {turn : D → Env → Out (Env × Option D)} {J : List D → List D → Env → Prop} {T : List D} {Q : Env × List D → Prop} : ∀ (xs pre acc : List D) (ρ : Env), pre ++ xs = T → acc.length + xs.length ≤ LIM → J pre acc ρ → (∀ p d q acc ρ, T = p ++ d :: q → J p acc ρ → Wp (turn d ρ) fun r => J (p ++ [d]) (acc ++ r.2.toList) r.1 ∧ chk r.1 = true) → (∀ ys ρ, J T ys ρ → Q (ρ, ys)) → Wp (cLoop chk turn xs acc ρ) Q
  | [], pre, acc, ρ, e, _, h, _, k => wp_ok.mpr (k acc ρ (by rw [List.append_nil] at e; rw [← e]; exact h))
  | d :: ds, pre, acc, ρ, e, hl, h, hs, k => by
    obtain ⟨⟨ρ1, y⟩, e1, h1, hc⟩ := hs pre d ds acc ρ e.symm h
    rw [List.length_cons] at hl
    have hy : y.toList.length ≤ 1 := by cases y <;> simp
    have : decide (acc.length < LIM) = true := decide_eq_true (by omega)
    unfold cLoop
    simp only [e1, hc, this, Bool.and_self, if_true]
    exact wp_cloop ds (pre ++ [d]) (acc ++ y.toList) ρ1 (by rw [← e, List.append_assoc]; rfl) (by rw [List.length_append]; omega) h1 hs k
theorem wp_lc {vs : List Nat} {I : VI} {G : VG} {T : VT} {F : VE} {ρ ρ1 : Env} {xs : List D} {dep : Dep} {Q : Env × D → Prop} (J : List D → List D → Env → Prop) (h : I ρ = .ok (ρ1, xs, dep)) (h1 : vsOk ρ1 vs = true) (h2 : depOk dep vs = true) (hl : xs.length ≤ LIM) (h0 : J [] [] (wipeE ρ1 vs))
    (hs : ∀ p d q acc ρ, xs = p ++ d :: q → J p acc ρ → Wp (cTurn vs G T F d ρ) fun r => J (p ++ [d]) (acc ++ r.2.toList) r.1 ∧ chkO dep r.1 = true) (he : ∀ ys ρ, J xs ys ρ → Q (restE ρ1 ρ vs, .lst true ys)) : Wp (vLc vs I G T F ρ) Q := by
  obtain ⟨⟨ρ2, ys⟩, e, q⟩ := wp_cloop (chk := chkO dep) (turn := cTurn vs G T F) (J := J) (T := xs) (Q := fun r => Q (restE ρ1 r.1 vs, .lst true r.2)) xs [] [] (wipeE ρ1 vs) rfl (by simpa using hl) h0 hs he
  exact ⟨_, vLc_eq h h1 h2 e, q⟩
/-- .. that leaves all as it is -/
theorem wp_lc_pure {vs : List Nat} {I : VI} {G : VG} {T : VT} {F : VE} {ρ ρ1 : Env} {xs : List D} {dep : Dep} {Q : Env × D → Prop} (y : D → Option D) (h : I ρ = .ok (ρ1, xs, dep)) (h1 : vsOk ρ1 vs = true) (h2 : depOk dep vs = true) (hl : xs.length ≤ LIM) (hc : chkO dep (wipeE ρ1 vs) = true)
    (hs : ∀ d ∈ xs, cTurn vs G T F d (wipeE ρ1 vs) = .ok (wipeE ρ1 vs, y d)) (he : Q (restE ρ1 (wipeE ρ1 vs) vs, .lst true (xs.flatMap fun d => (y d).toList))) : Wp (vLc vs I G T F ρ) Q :=
  ⟨_, vLc_eq h h1 h2 (cLoop_pure xs hl hc hs), he⟩
/-- a call -/
theorem wp_call {f : FnV} {A : VL} {ρ ρ1 : Env} {as : List Arg} {ds : List D} {Q : Env × D → Prop} (h : A ρ = .ok (ρ1, as)) (h1 : resAll ρ1 as = some ds) (h2 : once ρ1 as = true) (h3 : Wp (f ds) fun q => q.1.length = as.length ∧ Q (putB ρ1 ρ1 as (q.1.map some), q.2)) : Wp (vCall f A ρ) Q := by
  obtain ⟨⟨ds', r⟩, e, hl, q⟩ := h3
  exact ⟨_, vCall_eq h h1 h2 e hl, q⟩
theorem wipeE_comm {ρ : Env} {v : Nat} {o : Option D} : ∀ {vs : List Nat}, v ∉ vs → wipeE (ρ.set v o) vs = (wipeE ρ vs).set v o
  | [], _ => rfl
  | w :: vs, h => by
    rw [wipeE, wipeE, wipeE_comm fun m => h (List.mem_cons_of_mem _ m), List.set_comm]
    intro e
    exact h (by rw [e]; simp)
theorem restE_get {ρ0 ρ : Env} {j : Nat} : ∀ {vs : List Nat}, (restE ρ0 ρ vs)[j]? = if j ∈ vs then (if j < ρ.length then some ((ρ0[j]?).join) else none) else ρ[j]?
  | [] => by simp [restE]
  | v :: vs => by
    rw [restE]
    by_cases hj : j = v
    · subst hj
      by_cases hl : j < ρ.length
      · rw [List.getElem?_set_self (by rw [restE_len]; exact hl)]; simp [hl]
      · rw [List.getElem?_eq_none (by rw [List.length_set, restE_len]; omega)]; simp [hl]
    · rw [List.getElem?_set_ne (Ne.symm hj), restE_get]
      simp [hj]
theorem restE_wipe {ρ : Env} {vs : List Nat} : restE ρ (wipeE ρ vs) vs = ρ := by
  apply List.ext_getElem?
  intro j
  rw [restE_get, wipeE_len]
  by_cases hj : j ∈ vs
  · rw [if_pos hj]
    by_cases hl : j < ρ.length
    · rw [if_pos hl, List.getElem?_eq_getElem hl]
      rfl
    · rw [if_neg hl, List.getElem?_eq_none (by omega)]
  · rw [if_neg hj, wipeE_get hj]
theorem vLc_pure {vs : List Nat} {I : VI} {G : VG} {T : VT} {F : VE} {ρ ρ1 : Env} {xs : List D} {dep : Dep} (y : D → Option D) (h : I ρ = .ok (ρ1, xs, dep)) (h1 : vsOk ρ1 vs = true) (h2 : depOk dep vs = true) (hl : xs.length ≤ 10000000) (hc : chkO dep (wipeE ρ1 vs) = true)
    (hs : ∀ d ∈ xs, cTurn vs G T F d (wipeE ρ1 vs) = .ok (wipeE ρ1 vs, y d)) : vLc vs I G T F ρ = .ok (ρ1, .lst true (xs.flatMap fun d => (y d).toList)) := by
  rw [vLc_eq h h1 h2 (cLoop_pure xs hl hc hs), restE_wipe]
theorem vLc_map {vs : List Nat} {I : VI} {G : VG} {T : VT} {F : VE} {ρ ρ1 : Env} {xs : List D} {dep : Dep} (y : D → D) (h : I ρ = .ok (ρ1, xs, dep)) (h1 : vsOk ρ1 vs = true) (h2 : depOk dep vs = true) (hl : xs.length ≤ 10000000) (hc : chkO dep (wipeE ρ1 vs) = true)
    (hs : ∀ d ∈ xs, cTurn vs G T F d (wipeE ρ1 vs) = .ok (wipeE ρ1 vs, some (y d))) : vLc vs I G T F ρ = .ok (ρ1, .lst true (xs.map y)) := by
  rw [vLc_pure (fun d => some (y d)) h h1 h2 hl hc hs, flatMap_some]
end EV

set_option Elab.async false
set_option linter.all false
set_option maxRecDepth 100000
set_option maxHeartbeats 2000000
/-! K2o: the loop over things; the drawn values. -/
namespace Law
open PySem L2 EV
/-- nothing, or something frozen -/
def fo : Option D → Bool
  | none => true
  | some d => d.fz
theorem w0_ok {ns : List Int} {k : Nat} {c t e f g h i j o : Option D} (hk : k < 3) : ∃ fd, Fd fd ∧ w0 (lE (some (.scr ns)) (some (.int (k : Nat))) c t e f g h i j o) = .ok (lE (some (.scr ns)) (some (.int (k : Nat))) (some fd) t e f g h i j o, .nx) := by
  obtain ⟨d, e1, hd⟩ := feed_ok (ns := ns) hk
  refine ⟨d, hd, ?_⟩
  simp [w0, fnOf, begin_, fin, outs, vSeq, vIfS, vIf, vB, vOp, vCons, vVal, vSlot, vVar, vC, vNil, vFin, resAll, Arg.res, vIce, D.ice, ices, D.fz, fzs, vSet, vRet, vRetV, vNext, vExpr, vCall, vFinC, once, owned, putB, fIxA, ixA, ixD, D.seq?, atI0, atI1, fGt, fGe, fLe, fLt, fCmp, fI2, fI, fMod, fIc, cMod, cDiv, fDiv, fSub, fPow, cPow, fAdd, fMul, vStore, vFinS, ixN, fLst, fTup, fLen, lenD, fAbs, fMax2, fMin2, fInt, fNeg, fIsN, D.isN, fIsi, D.ty?, fEq, eqD, D.sv, vNot, vAnd, vOr, vNotT, vAndT, vOrT, vChain, fIn, vAsg, gvTup, gvCons, gvName, gvNil, LIM, scal, flatV, vItems, itemsA, D.items?, vLc, lcFin, restE, wipeE, vsOk, depOk, chkO, chars_fz, fAll, vPar, two, fList, vFor, vOpI, vTurn, vMeth, vFinM, mPopAt, mAppend, Out.bind_ok, e1]
theorem w1_ok {sc k fd : D} {t e f g h i j o : Option D} (hf : Fd fd) (ht : fo t = true) : ∃ fd' t' e' f', Fd fd' ∧ fo t' = true ∧ w1 (lE (some sc) (some k) (some fd) t e f g h i j o) = .ok (lE (some sc) (some k) (some fd') t' e' f' g h i j o, .nx) := by
  have z : Wp (w1 (lE (some sc) (some k) (some fd) t e f g h i j o)) fun q => ∃ fd' t' e' f', Fd fd' ∧ fo t' = true ∧ q = (lE (some sc) (some k) (some fd') t' e' f' g h i j o, .nx) := by
    unfold w1
    refine wp_for (fun _ ρ => ∃ fd' t' e' f', Fd fd' ∧ fo t' = true ∧ ρ = lE (some sc) (some k) (some fd') t' e' f' g h i j o) (vOpI_eq (as := [.val (.int 20)]) (ds := [.int 20]) rfl rfl (rng1_nat (n := 20) (by decide))) rfl ⟨fd, t, e, f, hf, ht, rfl⟩ ?_ ?_
    · rintro p d q ρ hT ⟨fd', t', e', f', h1, h2, rfl⟩
      obtain ⟨n, _, rfl⟩ := rangeD_mem (lo := 0) (n := 20) (d := d) (by rw [hT]; simp)
      obtain ⟨fd2, x, h3, tx, s1⟩ := step_thing (sc := sc) (k := k) (t := some (.int (0 + n))) (e := e') (f := f') (g := g) (h := h) (i := i) (j := j) (o := o) h1
      show Wp (vSeq _ _ (lE (some sc) (some k) (some fd') (some (.int (0 + n))) e' f' g h i j o)) _
      rw [wp_seq]
      refine Wp.of s1 ?_
      rw [seqQ_nx, wp_seq]
      refine Wp.of (step_plain tx) ?_
      rw [seqQ_nx]
      exact Wp.of (step_test tx) ⟨⟨fd2, _, _, _, h3, rfl, rfl⟩, rfl⟩
    · rintro ρ ⟨fd', t', e', f', h1, h2, rfl⟩
      exact ⟨fd', t', e', f', h1, h2, rfl⟩
  obtain ⟨q, e2, fd', t', e', f', h1, h2, rfl⟩ := z
  exact ⟨fd', t', e', f', h1, h2, e2⟩
end Law

set_option Elab.async false
set_option linter.all false
set_option maxRecDepth 100000
set_option maxHeartbeats 2000000
set_option pp.maxSteps 300
set_option pp.deepTerms.threshold 8
/-! K2p: the values; each once. -/
namespace Law
open PySem L2 EV
theorem w2_ok {sc k fd : D} {t e f g h i j o : Option D} (hf : Fd fd) (ht : fo t = true) : ∃ fd' xs, Fd fd' ∧ (∀ x ∈ xs, Val x) ∧ xs.length ≤ 12 ∧ w2 (lE (some sc) (some k) (some fd) t e f g h i j o) = .ok (lE (some sc) (some k) (some fd') t e f (some (.lst true xs)) h i j o, .nx) := by
  obtain ⟨d1, r, e1, h1, a1, b1⟩ := take_ok hf (m := 12) (by decide) (by decide)
  obtain ⟨n, rfl⟩ := Int.eq_ofNat_of_zero_le a1
  have z : Wp (w2 (lE (some sc) (some k) (some fd) t e f g h i j o)) fun q => ∃ fd' xs, Fd fd' ∧ (∀ x ∈ xs, Val x) ∧ xs.length ≤ 12 ∧ q = (lE (some sc) (some k) (some fd') t e f (some (.lst true xs)) h i j o, .nx) := by
    unfold w2 vSet
    rw [wp_bind]
    refine wp_lc (ρ1 := lE (some sc) (some k) (some d1) t e f g h i j o) (fun p acc ρ => ∃ fd', Fd fd' ∧ (∀ x ∈ acc, Val x) ∧ acc.length = p.length ∧ ρ = lE (some sc) (some k) (some fd') none e f g h i j o) (vOpI_eq (as := [.val (.int n)]) (ds := [.int n]) (by simp [fnOf, begin_, fin, outs, vSeq, vIfS, vIf, vB, vOp, vCons, vVal, vSlot, vVar, vC, vNil, vFin, resAll, Arg.res, vIce, D.ice, ices, D.fz, fzs, vSet, vRet, vRetV, vNext, vExpr, vCall, vFinC, once, owned, putB, fIxA, ixA, ixD, D.seq?, atI0, atI1, fGt, fGe, fLe, fLt, fCmp, fI2, fI, fMod, fIc, cMod, cDiv, fDiv, fSub, fPow, cPow, fAdd, fMul, vStore, vFinS, ixN, fLst, fTup, fLen, lenD, fAbs, fMax2, fMin2, fInt, fNeg, fIsN, D.isN, fIsi, D.ty?, fEq, eqD, D.sv, vNot, vAnd, vOr, vNotT, vAndT, vOrT, vChain, fIn, vAsg, gvTup, gvCons, gvName, gvNil, LIM, scal, flatV, vItems, itemsA, D.items?, vLc, lcFin, restE, wipeE, vsOk, depOk, chkO, chars_fz, fAll, vPar, two, fList, vFor, vOpI, vTurn, vMeth, vFinM, mPopAt, mAppend, Out.bind_ok, e1, hf.fz, h1.fz]) rfl (rng1_nat (by omega))) (by cases t <;> simp_all [vsOk, fo]) rfl (by rw [rangeD_len]; show n ≤ 10000000; omega) ⟨d1, h1, by simp, rfl, rfl⟩ ?_ ?_
    · rintro p d q acc ρ hT ⟨fd', hfd, hv, hl, rfl⟩
      obtain ⟨d2, x, e2, h2, vx⟩ := value_ok hfd
      refine ⟨(lE (some sc) (some k) (some d2) none e f g h i j o, some x), ?_, ⟨d2, h2, ?_, by simp [hl], rfl⟩, rfl⟩
      · simp [cTurn, fnOf, begin_, fin, outs, vSeq, vIfS, vIf, vB, vOp, vCons, vVal, vSlot, vVar, vC, vNil, vFin, resAll, Arg.res, vIce, D.ice, ices, D.fz, fzs, vSet, vRet, vRetV, vNext, vExpr, vCall, vFinC, once, owned, putB, fIxA, ixA, ixD, D.seq?, atI0, atI1, fGt, fGe, fLe, fLt, fCmp, fI2, fI, fMod, fIc, cMod, cDiv, fDiv, fSub, fPow, cPow, fAdd, fMul, vStore, vFinS, ixN, fLst, fTup, fLen, lenD, fAbs, fMax2, fMin2, fInt, fNeg, fIsN, D.isN, fIsi, D.ty?, fEq, eqD, D.sv, vNot, vAnd, vOr, vNotT, vAndT, vOrT, vChain, fIn, vAsg, gvTup, gvCons, gvName, gvNil, LIM, scal, flatV, vItems, itemsA, D.items?, vLc, lcFin, restE, wipeE, vsOk, depOk, chkO, chars_fz, fAll, vPar, two, fList, vFor, vOpI, vTurn, vMeth, vFinM, mPopAt, mAppend, Out.bind_ok, e2, hfd.fz, h2.fz, vTrue, D.ice_id vx.fz]
      · intro y m
        rcases List.mem_append.mp m with m | m
        · exact hv y m
        · have : y = x := by simpa using m
          rw [this]; exact vx
    · rintro ys ρ ⟨fd', hfd, hv, hl, rfl⟩
      rw [rangeD_len] at hl
      refine wp_ok.mpr ⟨fd', ys, hfd, hv, by omega, ?_⟩
      simp [restE]
  obtain ⟨q, e2, fd', xs, h2, h3, h4, rfl⟩ := z
  exact ⟨fd', xs, h2, h3, h4, e2⟩
theorem w3_ok {sc k fd : D} {t e f g h i j o : Option D} : w3 (lE (some sc) (some k) (some fd) t e f g h i j o) = .ok (lE (some sc) (some k) (some fd) t e f g (some (.lst true [])) i j o, .nx) := by
  simp [w3, fnOf, begin_, fin, outs, vSeq, vIfS, vIf, vB, vOp, vCons, vVal, vSlot, vVar, vC, vNil, vFin, resAll, Arg.res, vIce, D.ice, ices, D.fz, fzs, vSet, vRet, vRetV, vNext, vExpr, vCall, vFinC, once, owned, putB, fIxA, ixA, ixD, D.seq?, atI0, atI1, fGt, fGe, fLe, fLt, fCmp, fI2, fI, fMod, fIc, cMod, cDiv, fDiv, fSub, fPow, cPow, fAdd, fMul, vStore, vFinS, ixN, fLst, fTup, fLen, lenD, fAbs, fMax2, fMin2, fInt, fNeg, fIsN, D.isN, fIsi, D.ty?, fEq, eqD, D.sv, vNot, vAnd, vOr, vNotT, vAndT, vOrT, vChain, fIn, vAsg, gvTup, gvCons, gvName, gvNil, LIM, scal, flatV, vItems, itemsA, D.items?, vLc, lcFin, restE, wipeE, vsOk, depOk, chkO, chars_fz, fAll, vPar, two, fList, vFor, vOpI, vTurn, vMeth, vFinM, mPopAt, mAppend, Out.bind_ok]
theorem same_any {us : List D} {x : D} (hu : ∀ u ∈ us, Val u) (hx : Val x) : decide ((us.flatMap fun d => (if sm d x = true then some (D.int 1) else none).toList).length = 0) = !us.any fun y => sm y x := by
  induction us with
  | nil => rfl
  | cons u us ih =>
    rw [List.flatMap_cons, List.any_cons]
    by_cases c : sm u x = true
    · simp [c]
    · simp only [c, Bool.false_eq_true, if_false, Option.toList_none, List.nil_append, Bool.false_or]
      exact ih fun u m => hu u (List.mem_cons_of_mem _ m)
theorem ones_rep {us : List D} {x : D} : (us.flatMap fun d => (if sm d x = true then some (D.int 1) else none).toList) = List.replicate (us.flatMap fun d => (if sm d x = true then some (D.int 1) else none).toList).length (.int 1) := by
  refine List.eq_replicate_iff.mpr ⟨rfl, fun b m => ?_⟩
  obtain ⟨u, _, h⟩ := List.mem_flatMap.mp m
  split at h
  · simpa using h
  · simp at h
theorem w4_ok {sc k fd : D} {xs : List D} {t e f i j o : Option D} (hv : ∀ x ∈ xs, Val x) (hl : xs.length ≤ 12) (hi : fo i = true) : ∃ i', fo i' = true ∧ w4 (lE (some sc) (some k) (some fd) t e f (some (.lst true xs)) (some (.lst true [])) i j o) = .ok (lE (some sc) (some k) (some fd) t e f (some (.lst true xs)) (some (.lst true (uni xs))) i' j o, .nx) := by
  have fx : fzs xs = true := fzs_all.mpr fun x m => (hv x m).fz
  have z : Wp (w4 (lE (some sc) (some k) (some fd) t e f (some (.lst true xs)) (some (.lst true [])) i j o)) fun q => ∃ i', fo i' = true ∧ q = (lE (some sc) (some k) (some fd) t e f (some (.lst true xs)) (some (.lst true (uni xs))) i' j o, .nx) := by
    unfold w4
    refine wp_for (fun p ρ => ∃ i', fo i' = true ∧ ρ = lE (some sc) (some k) (some fd) t e f (some (.lst true xs)) (some (.lst true (uni p))) i' j o) (vItems_slot (i := 6) rfl rfl fx) (by simp [D.fz, depOk]) ⟨i, hi, rfl⟩ ?_ ?_
    · rintro p x q ρ hT ⟨i', hi', rfl⟩
      have hx : Val x := hv x (by rw [hT]; simp)
      have hp : ∀ y ∈ p, Val y := fun y m => hv y (by rw [hT]; simp [m])
      have up : ∀ u ∈ uni p, Val u := uni_val (fun _ m => nomatch m) hp
      have ul : (uni p).length ≤ 12 := by
        have h1 := uni_len (xs := p) (acc := [])
        have h2 := congrArg List.length hT
        simp at h1 h2
        unfold uni
        omega
      have fu : fzs (uni p) = true := fzs_all.mpr fun x m => (up x m).fz
      have e1 : uni (p ++ [x]) = addU (uni p) x := by unfold uni; rw [List.foldl_append]; rfl
      show Wp (vIfS _ _ _ (lE (some sc) (some k) (some fd) t e f (some (.lst true xs)) (some (.lst true (uni p))) (some x) j o)) _
      have lc : vLc [11] (vItems (vSlot 7)) (gvName 11) (vB (vCall f_same (vCons (vSlot 11) (vCons (vSlot 8) vNil)))) (vC (.int (1))) (lE (some sc) (some k) (some fd) t e f (some (.lst true xs)) (some (.lst true (uni p))) (some x) j o) = .ok (lE (some sc) (some k) (some fd) t e f (some (.lst true xs)) (some (.lst true (uni p))) (some x) j o, .lst true ((uni p).flatMap fun d => (if sm d x = true then some (D.int 1) else none).toList)) := by
        refine vLc_eq (vItems_slot (i := 7) rfl rfl fu) (by simp [vsOk]) (by simp [D.fz, depOk]) (cLoop_pure _ (by show _ ≤ 10000000; omega) (by simp [D.fz, chkO, chkS, wipeE]) fun u m => ?_)
        have vu := up u m
        have es := same_val vu hx
        by_cases c : sm u x = true
        · simp [cTurn, fnOf, begin_, fin, outs, vSeq, vIfS, vIf, vB, vOp, vCons, vVal, vSlot, vVar, vC, vNil, vFin, resAll, Arg.res, vIce, D.ice, ices, D.fz, fzs, vSet, vRet, vRetV, vNext, vExpr, vCall, vFinC, once, owned, putB, fIxA, ixA, ixD, D.seq?, atI0, atI1, fGt, fGe, fLe, fLt, fCmp, fI2, fI, fMod, fIc, cMod, cDiv, fDiv, fSub, fPow, cPow, fAdd, fMul, vStore, vFinS, ixN, fLst, fTup, fLen, lenD, fAbs, fMax2, fMin2, fInt, fNeg, fIsN, D.isN, fIsi, D.ty?, fEq, eqD, D.sv, vNot, vAnd, vOr, vNotT, vAndT, vOrT, vChain, fIn, vAsg, gvTup, gvCons, gvName, gvNil, LIM, scal, flatV, vItems, itemsA, D.items?, vLc, lcFin, restE, wipeE, vsOk, depOk, chkO, chars_fz, fAll, vPar, two, fList, vFor, vOpI, vTurn, vMeth, vFinM, mPopAt, mAppend, Out.bind_ok, es, c, vu.fz, hx.fz]
        · simp [cTurn, fnOf, begin_, fin, outs, vSeq, vIfS, vIf, vB, vOp, vCons, vVal, vSlot, vVar, vC, vNil, vFin, resAll, Arg.res, vIce, D.ice, ices, D.fz, fzs, vSet, vRet, vRetV, vNext, vExpr, vCall, vFinC, once, owned, putB, fIxA, ixA, ixD, D.seq?, atI0, atI1, fGt, fGe, fLe, fLt, fCmp, fI2, fI, fMod, fIc, cMod, cDiv, fDiv, fSub, fPow, cPow, fAdd, fMul, vStore, vFinS, ixN, fLst, fTup, fLen, lenD, fAbs, fMax2, fMin2, fInt, fNeg, fIsN, D.isN, fIsi, D.ty?, fEq, eqD, D.sv, vNot, vAnd, vOr, vNotT, vAndT, vOrT, vChain, fIn, vAsg, gvTup, gvCons, gvName, gvNil, LIM, scal, flatV, vItems, itemsA, D.items?, vLc, lcFin, restE, wipeE, vsOk, depOk, chkO, chars_fz, fAll, vPar, two, fList, vFor, vOpI, vTurn, vMeth, vFinM, mPopAt, mAppend, Out.bind_ok, es, c, vu.fz, hx.fz]
      have tst : vB (vOp fEq (v2 (vVal (vLc [11] (vItems (vSlot 7)) (gvName 11) (vB (vCall f_same (vCons (vSlot 11) (vCons (vSlot 8) vNil)))) (vC (.int (1))))) (vVal (vOp fLst vNil)))) (lE (some sc) (some k) (some fd) t e f (some (.lst true xs)) (some (.lst true (uni p))) (some x) j o) = .ok (lE (some sc) (some k) (some fd) t e f (some (.lst true xs)) (some (.lst true (uni p))) (some x) j o, !(uni p).any fun y => sm y x) := by
        refine vB_eq (vOp_eq (vCons_eq (vVal_eq lc) (vCons_eq (vVal_eq (d := .lst true []) (ρ1 := lE (some sc) (some k) (some fd) t e f (some (.lst true xs)) (some (.lst true (uni p))) (some x) j o) (by simp [fnOf, begin_, fin, outs, vSeq, vIfS, vIf, vB, vOp, vCons, vVal, vSlot, vVar, vC, vNil, vFin, resAll, Arg.res, vIce, D.ice, ices, D.fz, fzs, vSet, vRet, vRetV, vNext, vExpr, vCall, vFinC, once, owned, putB, fIxA, ixA, ixD, D.seq?, atI0, atI1, fGt, fGe, fLe, fLt, fCmp, fI2, fI, fMod, fIc, cMod, cDiv, fDiv, fSub, fPow, cPow, fAdd, fMul, vStore, vFinS, ixN, fLst, fTup, fLen, lenD, fAbs, fMax2, fMin2, fInt, fNeg, fIsN, D.isN, fIsi, D.ty?, fEq, eqD, D.sv, vNot, vAnd, vOr, vNotT, vAndT, vOrT, vChain, fIn, vAsg, gvTup, gvCons, gvName, gvNil, LIM, scal, flatV, vItems, itemsA, D.items?, vLc, lcFin, restE, wipeE, vsOk, depOk, chkO, chars_fz, fAll, vPar, two, fList, vFor, vOpI, vTurn, vMeth, vFinM, mPopAt, mAppend, Out.bind_ok])) rfl)) rfl ?_)
        show (eqD _ _).map D.bl = _
        rw [ones_rep, ones_eq, same_any up hx]
        rfl
      rw [wp_ifS]
      refine Wp.of tst ?_
      cases c : (uni p).any fun y => sm y x with
      | true =>
        refine Wp.of rfl ⟨⟨some x, hx.fz, ?_⟩, by simp [D.fz, chkO, chkS]⟩
        rw [e1, addU, if_pos c]
      | false =>
        refine Wp.of (a := (lE (some sc) (some k) (some fd) t e f (some (.lst true xs)) (some (.lst true (uni p ++ [x]))) (some x) j o, Ctl.nx)) ?_ ⟨⟨some x, hx.fz, ?_⟩, by simp [D.fz, chkO, chkS]⟩
        · have : (uni p).length < 10000000 := by omega
          simp [fnOf, begin_, fin, outs, vSeq, vIfS, vIf, vB, vOp, vCons, vVal, vSlot, vVar, vC, vNil, vFin, resAll, Arg.res, vIce, D.ice, ices, D.fz, fzs, vSet, vRet, vRetV, vNext, vExpr, vCall, vFinC, once, owned, putB, fIxA, ixA, ixD, D.seq?, atI0, atI1, fGt, fGe, fLe, fLt, fCmp, fI2, fI, fMod, fIc, cMod, cDiv, fDiv, fSub, fPow, cPow, fAdd, fMul, vStore, vFinS, ixN, fLst, fTup, fLen, lenD, fAbs, fMax2, fMin2, fInt, fNeg, fIsN, D.isN, fIsi, D.ty?, fEq, eqD, D.sv, vNot, vAnd, vOr, vNotT, vAndT, vOrT, vChain, fIn, vAsg, gvTup, gvCons, gvName, gvNil, LIM, scal, flatV, vItems, itemsA, D.items?, vLc, lcFin, restE, wipeE, vsOk, depOk, chkO, chars_fz, fAll, vPar, two, fList, vFor, vOpI, vTurn, vMeth, vFinM, mPopAt, mAppend, Out.bind_ok, hx.fz, fu, this, D.ice_id hx.fz]
        · rw [e1, addU, if_neg (by simp [c])]
    · rintro ρ ⟨i', hi', rfl⟩
      exact ⟨i', hi', rfl⟩
  obtain ⟨q, e2, i', hi', rfl⟩ := z
  exact ⟨i', hi', e2⟩
end Law

set_option Elab.async false
set_option linter.all false
set_option maxRecDepth 100000
set_option maxHeartbeats 1000000
/-! RY: how long the text of a datum is. -/
namespace EV
open PySem L2
structure Shw (p : PyData) (d w : Nat) : Prop where
  sh : p.showable = true
  nd : p.hasDict = false
  dp : p.depth ≤ d
  ln : p.shown.length ≤ w
theorem Shw.mono {p : PyData} {d w d' w' : Nat} (h : Shw p d w) (h1 : d ≤ d') (h2 : w ≤ w') : Shw p d' w' := ⟨h.sh, h.nd, Nat.le_trans h.dp h1, Nat.le_trans h.ln h2⟩
theorem shw_all {d w : Nat} : ∀ {ps : List PyData}, (∀ p ∈ ps, Shw p d w) → PyData.showableAll ps = true ∧ PyData.hasDictAll ps = false ∧ PyData.depthAll ps ≤ d ∧ ((PyData.shownAll ps).map (·.length)).sum ≤ ps.length * w
  | [], _ => ⟨by simp [PyData.showableAll], by simp [PyData.hasDictAll], by simp [PyData.depthAll], by simp [PyData.shownAll]⟩
  | p :: ps, h => by
    have h1 := h p List.mem_cons_self
    obtain ⟨a, b, c, e⟩ := shw_all fun q m => h q (List.mem_cons_of_mem _ m)
    have := h1.ln
    have := h1.dp
    refine ⟨by simp [PyData.showableAll, h1.sh, a], by simp [PyData.hasDictAll, h1.nd, b], ?_, ?_⟩
    · simp only [PyData.depthAll]
      omega
    · simp only [PyData.shownAll, List.map_cons, List.sum_cons, List.length_cons, Nat.add_mul]
      omega
theorem Shw.list {d w n : Nat} {ps : List PyData} (h : ∀ p ∈ ps, Shw p d w) (hl : ps.length ≤ n) : Shw (.list ps) (d + 1) (n * (w + 2) + 3) := by
  obtain ⟨a, b, c, e⟩ := shw_all h
  refine ⟨by simp only [PyData.showable]; exact a, by simp only [PyData.hasDict]; exact b, by simp only [PyData.depth]; omega, ?_⟩
  have h2 := listText_len_le (PyData.shownAll ps)
  have h3 := PyData.shownAll_length ps
  have h4 : ps.length * (w + 2) ≤ n * (w + 2) := Nat.mul_le_mul_right _ hl
  rw [Nat.mul_add] at h4
  simp only [PyData.shown]
  omega
theorem Shw.tuple {d w n : Nat} {ps : List PyData} (h : ∀ p ∈ ps, Shw p d w) (hl : ps.length ≤ n) : Shw (.tuple ps) (d + 1) (n * (w + 2) + 3) := by
  obtain ⟨a, b, c, e⟩ := shw_all h
  refine ⟨by simp only [PyData.showable]; exact a, by simp only [PyData.hasDict]; exact b, by simp only [PyData.depth]; omega, ?_⟩
  have h2 := tupleText_len_le (PyData.shownAll ps)
  have h3 := PyData.shownAll_length ps
  have h4 : ps.length * (w + 2) ≤ n * (w + 2) := Nat.mul_le_mul_right _ hl
  rw [Nat.mul_add] at h4
  simp only [PyData.shown]
  omega
theorem Shw.bool {b : Bool} : Shw (.bool b) 1 5 := by cases b <;> exact ⟨by decide +kernel, by decide +kernel, by decide +kernel, by decide +kernel⟩
theorem Shw.none : Shw .none 1 5 := ⟨by decide +kernel, by decide +kernel, by decide +kernel, by decide +kernel⟩
theorem Shw.int {i : Int} {k : Nat} (hk : 0 < k) (hk' : k ≤ 500) (h : i.natAbs < 10 ^ k) : Shw (.int i) 1 (k + 1) := by
  refine ⟨?_, by simp [PyData.hasDict], by simp [PyData.depth], ?_⟩
  · simp only [PyData.showable, decide_eq_true_eq]
    refine PySem.Flt.log2_lt_of (by decide) (Nat.lt_of_lt_of_le h ?_)
    exact Nat.le_trans (Nat.pow_le_pow_right (by decide) hk') (by decide +kernel)
  · have e : (PyData.int i).shown = iS i := PyData.shown_int i
    rw [e]
    exact iS_len hk h
theorem toPs_map : ∀ {xs : List D}, (∀ x ∈ xs, x.toP = some x.pd) → toPs xs = some (xs.map D.pd)
  | [], _ => rfl
  | x :: xs, h => by rw [toPs, h x List.mem_cons_self, toPs_map fun y m => h y (List.mem_cons_of_mem _ m)]; rfl
end EV

set_option Elab.async false
set_option linter.all false
set_option maxRecDepth 100000
set_option maxHeartbeats 2000000
set_option pp.maxSteps 300
set_option pp.deepTerms.threshold 8
/-! K2q: the order that is due; the asks. -/
namespace Law
open PySem L2 EV
open PySem.W (alike alikeAll)
theorem enum_zip : ∀ {us : List D} {n : Nat}, enumD n us = (us.zipIdx n).map fun z => D.tup true [.int (z.2 : Nat), z.1]
  | [], _ => rfl
  | u :: us, n => by rw [enumD, List.zipIdx_cons, List.map_cons, enum_zip]
theorem val_shw {x : D} (h : Val x) : Shw x.pd 1 30 := by
  cases h with
  | non => exact Shw.none.mono (by decide) (by decide)
  | bl b => exact Shw.bool.mono (by decide) (by decide)
  | int i h => exact (Shw.int (k := 19) (by decide) (by decide) (by omega)).mono (by decide) (by decide)
  | str z h =>
    have : (words.all fun z => decide ((PyData.str z).shown.length ≤ 30)) = true := by decide +kernel
    exact ⟨by simp [D.pd, D.toP, PyData.showable], by simp [D.pd, D.toP, PyData.hasDict], by simp [D.pd, D.toP, PyData.depth], of_decide_eq_true (List.all_eq_true.mp this z h)⟩
theorem shw_okP {p : PyData} {d w : Nat} (h : Shw p d w) (hd : d ≤ 60) (hw : w ≤ 10000000) : okP p = true := by
  have h1 : p.depth ≤ 60 := Nat.le_trans h.dp hd
  have h2 : p.shown.length ≤ LIM := Nat.le_trans h.ln hw
  unfold okP
  simp [h.sh, h.nd, h1, h2]
theorem same_lst {o o' : Bool} {xs : List D} (hv : ∀ x ∈ xs, Val x) (hl : xs.length ≤ 100) : f_same [.lst o xs, .lst o' xs] = .ok ([.lst o xs, .lst o' xs], .bl true) := by
  have t : toPs xs = some (xs.map D.pd) := toPs_map fun x m => pd_of (hv x m)
  have s := Shw.list (ps := xs.map D.pd) (d := 1) (w := 30) (n := 100) (fun p m => by obtain ⟨x, hx, rfl⟩ := List.mem_map.mp m; exact val_shw (hv x hx)) (by rw [List.length_map]; exact hl)
  have ok := shw_okP s (by decide) (by decide)
  rw [same_ok (p := .list (xs.map D.pd)) (q := .list (xs.map D.pd)) (by rw [D.toP, t]; rfl) (by rw [D.toP, t]; rfl) ok ok]
  simp
theorem same_bls {xs : List Bool} (hl : xs.length ≤ 100) : f_same [.lst true (xs.map D.bl), .lst true (xs.map D.bl)] = .ok ([.lst true (xs.map D.bl), .lst true (xs.map D.bl)], .bl true) :=
  same_lst (fun x m => by obtain ⟨b, _, rfl⟩ := List.mem_map.mp m; exact .bl b) (by rw [List.length_map]; exact hl)
theorem pr_fz {z : D × Nat} (h : Val z.1) : (pr z).fz = true := by
  obtain ⟨u, i⟩ := z
  cases h <;> rfl
theorem rk_ice {u : D} (h : Val u) : (rk u).ice = rk u := by cases h <;> rfl
theorem rk_fz {u : D} (h : Val u) : (rk u).fz = true := by cases h <;> rfl
theorem rk_toP {u : D} (h : Val u) : (rk u).toP = some (rk u).pd := by cases h <;> rfl
theorem pr_toP {z : D × Nat} (h : Val z.1) : (pr z).toP = some (pr z).pd := by
  obtain ⟨u, i⟩ := z
  cases h <;> rfl
theorem srt_pr {zs : List (D × Nat)} (h : ∀ z ∈ zs, Val z.1) : srtOk ((zs.map pr).map D.pd) = true := by
  have pd : ∀ z ∈ zs, (pr z).pd = .tuple [(rk z.1).pd, .int (z.2 : Nat)] := fun z m => pr_pd (h z m)
  unfold srtOk
  rw [Bool.and_eq_true, Bool.and_eq_true, Bool.or_eq_true]
  refine ⟨List.all_eq_true.mpr fun a ma => List.all_eq_true.mpr fun b mb => ?_, .inl (List.all_eq_true.mpr fun a ma => ?_), List.all_eq_true.mpr fun a ma => ?_⟩
  · rw [List.map_map] at ma mb
    obtain ⟨u, hu, rfl⟩ := List.mem_map.mp ma
    obtain ⟨v, hv, rfl⟩ := List.mem_map.mp mb
    show alike (pr u).pd (pr v).pd = true
    rw [pd u hu, pd v hv]
    simp [alike, alikeAll, alike_rk (h u hu) (h v hv)]
  · rw [List.map_map] at ma
    obtain ⟨u, hu, rfl⟩ := List.mem_map.mp ma
    show isT1 (pr u).pd = true
    rw [pd u hu]
    rfl
  · rw [List.map_map] at ma
    obtain ⟨u, hu, rfl⟩ := List.mem_map.mp ma
    show decide ((pr u).pd.depth ≤ 50) = true
    rw [pd u hu]
    have : ∀ {d : D}, Val d → (rk d).pd.depth ≤ 2 := fun h => by cases h <;> simp [rk, D.pd, D.toP, toPs, PyData.depth, PyData.depthAll]
    have := this (h u hu)
    rw [decide_eq_true_eq, PyData.depth, PyData.depthAll, PyData.depthAll, PyData.depthAll, PyData.depth]
    omega
theorem w5_ok {sc k fd : D} {us : List D} {t e f g i j o : Option D} (hv : ∀ x ∈ us, Val x) (hn : us.Nodup) (hl : us.length ≤ 12) (hi : fo i = true) : w5 (lE (some sc) (some k) (some fd) t e f g (some (.lst true us)) i j o) = .ok (lE (some sc) (some k) (some fd) t e f g (some (.lst true (us.mergeSort rr))) i j o, .nx) := by
  have fu : fzs us = true := fzs_all.mpr fun x m => (hv x m).fz
  have iu := ices_id fu
  have zi : ∀ z ∈ us.zipIdx, us[z.2]? = some z.1 := fun z m => List.mem_zipIdx_iff_getElem?.mp m
  have zv : ∀ z ∈ us.zipIdx, Val z.1 := fun z m => hv _ (List.mem_of_getElem? (zi z m))
  obtain ⟨zs, z1, z2, z3⟩ := due_sort hv hn
  have zsv : ∀ z ∈ zs, Val z.1 := fun z m => hv _ (List.mem_of_getElem? (z3 z m))
  have lc : vLc [13, 8] (vOpI fEnum (vCons (vKeep (vVar 7)) vNil)) (gvTup 2 (gvCons (gvName 13) (gvCons (gvName 8) gvNil))) vTrue (vOp fTup (vCons (vKeep (vCall f_lrank (vCons (vSlot 8) vNil))) (vCons (vKeep (vVar 13)) vNil))) (lE (some sc) (some k) (some fd) t e f g (some (.lst true us)) i j o) = .ok (lE (some sc) (some k) (some fd) t e f g (some (.lst false us)) i j o, .lst true (us.zipIdx.map pr)) := by
    have q : vOpI fEnum (vCons (vKeep (vVar 7)) vNil) (lE (some sc) (some k) (some fd) t e f g (some (.lst true us)) i j o) = .ok (lE (some sc) (some k) (some fd) t e f g (some (.lst false us)) i j o, enumD 0 us, none) := by
      refine vOpI_eq (as := [.val (.lst false us)]) (ds := [.lst false us]) ?_ rfl ?_
      · simp [vCons, vVal, vIce, vVar, vNil, D.fz, D.ice, iu]
      · simp [fEnum, fu]
    refine (vLc_eq (ρ2 := lE (some sc) (some k) (some fd) t e f g (some (.lst false us)) none j o) (ys := us.zipIdx.map pr) q (by cases i <;> simp_all [vsOk, fo]) rfl ?_).trans (by simp [restE])
    refine (cLoop_pure (y := fun d => match d with | .tup _ [.int n, u] => some (.tup true [rk u, .int n]) | _ => none) _ (by rw [enumD_len]; show _ ≤ 10000000; omega) rfl fun d m => ?_).trans ?_
    · rw [enum_zip] at m
      obtain ⟨z, mz, rfl⟩ := List.mem_map.mp m
      have v := zv z mz
      have lr := lrank_ok v
      simp [cTurn, vTrue, fnOf, begin_, fin, outs, vSeq, vIfS, vIf, vB, vOp, vCons, vVal, vSlot, vVar, vC, vNil, vFin, resAll, Arg.res, vIce, D.ice, ices, D.fz, fzs, vSet, vRet, vRetV, vNext, vExpr, vCall, vFinC, once, owned, putB, fIxA, ixA, ixD, D.seq?, atI0, atI1, fGt, fGe, fLe, fLt, fCmp, fI2, fI, fMod, fIc, cMod, cDiv, fDiv, fSub, fPow, cPow, fAdd, fMul, vStore, vFinS, ixN, fLst, fTup, fLen, lenD, fAbs, fMax2, fMin2, fInt, fNeg, fIsN, D.isN, fIsi, D.ty?, fEq, eqD, D.sv, vNot, vAnd, vOr, vNotT, vAndT, vOrT, vChain, fIn, vAsg, gvTup, gvCons, gvName, gvNil, LIM, scal, flatV, vItems, itemsA, D.items?, vLc, lcFin, restE, wipeE, vsOk, depOk, chkO, chars_fz, fAll, vPar, two, fList, vFor, vOpI, vTurn, vMeth, vFinM, mPopAt, mAppend, Out.bind_ok, lr, v.fz, rk_ice v, rk_fz v]
    · rw [enum_zip, List.flatMap_map]
      exact congrArg (fun l => Out.ok (_, l)) (flatMap_some (f := pr) (l := us.zipIdx))
  have so : vOp fSorted (vCons (vVal (vLc [13, 8] (vOpI fEnum (vCons (vKeep (vVar 7)) vNil)) (gvTup 2 (gvCons (gvName 13) (gvCons (gvName 8) gvNil))) vTrue (vOp fTup (vCons (vKeep (vCall f_lrank (vCons (vSlot 8) vNil))) (vCons (vKeep (vVar 13)) vNil))))) vNil) (lE (some sc) (some k) (some fd) t e f g (some (.lst true us)) i j o) = .ok (lE (some sc) (some k) (some fd) t e f g (some (.lst false us)) i j o, .lst true (zs.map pr)) := by
    refine vOp_eq (vCons_eq (vVal_eq lc) rfl) rfl ?_
    unfold fSorted
    dsimp only
    rw [toPs_map fun x m => by obtain ⟨z, mz, rfl⟩ := List.mem_map.mp m; exact pr_toP (zv z mz)]
    dsimp only
    have f1 : fzs (us.zipIdx.map pr) = true := fzs_all.mpr fun x m => by obtain ⟨z, mz, rfl⟩ := List.mem_map.mp m; exact pr_fz (zv z mz)
    rw [f1, srt_pr zv, Bool.and_self, if_pos rfl, z1]
  have fz : fzs (zs.map pr) = true := fzs_all.mpr fun x m => by obtain ⟨z, mz, rfl⟩ := List.mem_map.mp m; exact pr_fz (zsv z mz)
  have zl : zs.length ≤ 12 := by
    have := congrArg List.length z2
    rw [List.length_map, (List.mergeSort_perm _ _).length_eq] at this
    omega
  unfold w5
  refine (vSet_eq (d := .lst true (us.mergeSort rr)) (ρ1 := lE (some sc) (some k) (some fd) t e f g (some (.lst false us)) i j o) ?_ (by simp)).trans (by simp)
  refine (vLc_eq (ρ2 := lE (some sc) (some k) (some fd) t e f g (some (.lst false us)) i j o) (ys := us.mergeSort rr) (vItems_val so rfl fz) (by simp [vsOk]) rfl ?_).trans (by simp [restE])
  refine (cLoop_pure (y := fun d => match d with | .tup _ [_, .int n] => us[n.toNat]? | _ => none) _ (by rw [List.length_map]; show _ ≤ 10000000; omega) rfl fun d m => ?_).trans ?_
  · obtain ⟨z, mz, rfl⟩ := List.mem_map.mp m
    have v := zsv z mz
    have g1 := z3 z mz
    have ga : atI us (z.2 : Int) = some z.1 := by rw [atI_nat]; exact g1
    simp [cTurn, vTrue, fnOf, begin_, fin, outs, vSeq, vIfS, vIf, vB, vOp, vCons, vVal, vSlot, vVar, vC, vNil, vFin, resAll, Arg.res, vIce, D.ice, ices, D.fz, fzs, vSet, vRet, vRetV, vNext, vExpr, vCall, vFinC, once, owned, putB, fIxA, ixA, ixD, D.seq?, atI0, atI1, fGt, fGe, fLe, fLt, fCmp, fI2, fI, fMod, fIc, cMod, cDiv, fDiv, fSub, fPow, cPow, fAdd, fMul, vStore, vFinS, ixN, fLst, fTup, fLen, lenD, fAbs, fMax2, fMin2, fInt, fNeg, fIsN, D.isN, fIsi, D.ty?, fEq, eqD, D.sv, vNot, vAnd, vOr, vNotT, vAndT, vOrT, vChain, fIn, vAsg, gvTup, gvCons, gvName, gvNil, LIM, scal, flatV, vItems, itemsA, D.items?, vLc, lcFin, restE, wipeE, vsOk, depOk, chkO, chars_fz, fAll, vPar, two, fList, vFor, vOpI, vTurn, vMeth, vFinM, mPopAt, mAppend, Out.bind_ok, pr, ga, v.fz, D.ice_id v.fz, g1]
  · rw [List.flatMap_map]
    refine congrArg (fun l => Out.ok (_, l)) ?_
    rw [← z2]
    have : ∀ l : List (D × Nat), (∀ z ∈ l, us[z.2]? = some z.1) → l.flatMap (fun a => (match pr a with | .tup _ [_, .int n] => us[n.toNat]? | _ => none).toList) = l.map (·.1) := fun l => by
      induction l with
      | nil => intro _; rfl
      | cons u l ih =>
        intro hl
        rw [List.flatMap_cons, List.map_cons, ih fun v m => hl v (List.mem_cons_of_mem _ m)]
        simp [pr, hl u List.mem_cons_self]
    exact this _ z3
theorem w6_ok {sc k fd : D} {xs : List D} {t e f h i j o : Option D} (hf : Fd fd) (hv : ∀ x ∈ xs, Val x) : ∃ fd' c, Fd fd' ∧ Giv c xs ∧ w6 (lE (some sc) (some k) (some fd) t e f (some (.lst true xs)) h i j o) = .ok (lE (some sc) (some k) (some fd') t e f (some (.lst true xs)) h i (some c) o, .nx) := by
  have fx : fzs xs = true := fzs_all.mpr fun x m => (hv x m).fz
  obtain ⟨d1, r, e1, h1, a1, b1⟩ := take_ok hf (m := 2) (by decide) (by decide)
  by_cases c : r = 0
  · refine ⟨d1, .tup true xs, h1, ⟨rfl, .inr rfl⟩, ?_⟩
    subst c
    simp [w6, fnOf, begin_, fin, outs, vSeq, vIfS, vIf, vB, vOp, vCons, vVal, vSlot, vVar, vC, vNil, vFin, resAll, Arg.res, vIce, D.ice, ices, D.fz, fzs, vSet, vRet, vRetV, vNext, vExpr, vCall, vFinC, once, owned, putB, fIxA, ixA, ixD, D.seq?, atI0, atI1, fGt, fGe, fLe, fLt, fCmp, fI2, fI, fMod, fIc, cMod, cDiv, fDiv, fSub, fPow, cPow, fAdd, fMul, vStore, vFinS, ixN, fLst, fTup, fLen, lenD, fAbs, fMax2, fMin2, fInt, fNeg, fIsN, D.isN, fIsi, D.ty?, fEq, eqD, D.sv, vNot, vAnd, vOr, vNotT, vAndT, vOrT, vChain, fIn, vAsg, gvTup, gvCons, gvName, gvNil, LIM, scal, flatV, vItems, itemsA, D.items?, vLc, lcFin, restE, wipeE, vsOk, depOk, chkO, chars_fz, fAll, vPar, two, fList, vFor, vOpI, vTurn, vMeth, vFinM, mPopAt, mAppend, Out.bind_ok, e1, hf.fz, h1.fz, fTuple, fx]
  · refine ⟨d1, .lst true xs, h1, ⟨rfl, .inl rfl⟩, ?_⟩
    simp [w6, fnOf, begin_, fin, outs, vSeq, vIfS, vIf, vB, vOp, vCons, vVal, vSlot, vVar, vC, vNil, vFin, resAll, Arg.res, vIce, D.ice, ices, D.fz, fzs, vSet, vRet, vRetV, vNext, vExpr, vCall, vFinC, once, owned, putB, fIxA, ixA, ixD, D.seq?, atI0, atI1, fGt, fGe, fLe, fLt, fCmp, fI2, fI, fMod, fIc, cMod, cDiv, fDiv, fSub, fPow, cPow, fAdd, fMul, vStore, vFinS, ixN, fLst, fTup, fLen, lenD, fAbs, fMax2, fMin2, fInt, fNeg, fIsN, D.isN, fIsi, D.ty?, fEq, eqD, D.sv, vNot, vAnd, vOr, vNotT, vAndT, vOrT, vChain, fIn, vAsg, gvTup, gvCons, gvName, gvNil, LIM, scal, flatV, vItems, itemsA, D.items?, vLc, lcFin, restE, wipeE, vsOk, depOk, chkO, chars_fz, fAll, vPar, two, fList, vFor, vOpI, vTurn, vMeth, vFinM, mPopAt, mAppend, Out.bind_ok, e1, hf.fz, h1.fz, fTuple, fx, c]
theorem w7_ok {sc k fd c : D} {xs : List D} {t e f g i o : Option D} (hv : ∀ x ∈ xs, Val x) (hl : xs.length ≤ 12) (hc : Giv c xs) : w7 (lE (some sc) (some k) (some fd) t e f g (some (.lst true ((uni xs).mergeSort rr))) i (some c) o) = .ok (lE (some sc) (some k) (some fd) t e f g (some (.lst true ((uni xs).mergeSort rr))) i (some c) o, .nx) := by
  have uv : ∀ u ∈ uni xs, Val u := uni_val (fun _ m => nomatch m) hv
  have ul : (uni xs).length ≤ 12 := by
    have := uni_len (xs := xs) (acc := [])
    simp at this
    unfold uni
    omega
  have mv : ∀ u ∈ (uni xs).mergeSort rr, Val u := fun u m => uv u ((List.mergeSort_perm _ _).mem_iff.mp m)
  have e1 := inorder_ok hc hv (by omega)
  have e2 := same_lst (o := true) (o' := true) mv (by rw [(List.mergeSort_perm _ _).length_eq]; omega)
  have fm : fzs ((uni xs).mergeSort rr) = true := fzs_all.mpr fun x m => (mv x m).fz
  have fx : fzs xs = true := fzs_all.mpr fun x m => (hv x m).fz
  rcases hc.ok with rfl | rfl <;> simp [w7, fnOf, begin_, fin, outs, vSeq, vIfS, vIf, vB, vOp, vCons, vVal, vSlot, vVar, vC, vNil, vFin, resAll, Arg.res, vIce, D.ice, ices, D.fz, fzs, vSet, vRet, vRetV, vNext, vExpr, vCall, vFinC, once, owned, putB, fIxA, ixA, ixD, D.seq?, atI0, atI1, fGt, fGe, fLe, fLt, fCmp, fI2, fI, fMod, fIc, cMod, cDiv, fDiv, fSub, fPow, cPow, fAdd, fMul, vStore, vFinS, ixN, fLst, fTup, fLen, lenD, fAbs, fMax2, fMin2, fInt, fNeg, fIsN, D.isN, fIsi, D.ty?, fEq, eqD, D.sv, vNot, vAnd, vOr, vNotT, vAndT, vOrT, vChain, fIn, vAsg, gvTup, gvCons, gvName, gvNil, LIM, scal, flatV, vItems, itemsA, D.items?, vLc, lcFin, restE, wipeE, vsOk, depOk, chkO, chars_fz, fAll, vPar, two, fList, vFor, vOpI, vTurn, vMeth, vFinM, mPopAt, mAppend, Out.bind_ok, e1, e2, fm, fx]
end Law

set_option Elab.async false
set_option linter.all false
set_option maxRecDepth 100000
set_option maxHeartbeats 2000000
set_option pp.maxSteps 300
set_option pp.deepTerms.threshold 8
/-! K2r: the last asks; the law. -/
namespace Law
open PySem L2 EV
theorem ofS_small {a : String} : ∀ c ∈ (Str.ofString a).cps.toList, c < 16 ^ 8 := fun c m => by
  rw [ofS_list] at m
  obtain ⟨d, _, rfl⟩ := List.mem_map.mp m
  show d.val.toNat < 16 ^ 8
  exact Nat.lt_of_lt_of_le d.val.toNat_lt (by decide)
theorem txt_okP {x : D} (h : Val x) : okP (.str (txt x)) = true := by
  cases h with
  | non => decide +kernel
  | bl b => cases b <;> decide +kernel
  | int i h =>
    have l := iS_len (i := i) (k := 19) (by decide) (by omega)
    have e := StrLaws.reprText_len (iS i) ofS_small
    refine shw_okP (d := 1) (w := 1000) ⟨by simp [PyData.showable], by simp [PyData.hasDict], by simp [PyData.depth], ?_⟩ (by decide) (by decide)
    show (PyData.str (iS i)).shown.length ≤ 1000
    simp only [PyData.shown]
    omega
  | str z h =>
    have : (words.all fun z => okP (.str (txt (.str z)))) = true := by decide +kernel
    exact List.all_eq_true.mp this z h
theorem same_txt {x : D} (h : Val x) : f_same [.str (txt x), .str (txt x)] = .ok ([.str (txt x), .str (txt x)], .bl true) := by
  rw [same_ok (p := .str (txt x)) (q := .str (txt x)) rfl rfl (txt_okP h) (txt_okP h)]
  simp
theorem w8_ok {sc k fd : D} {xs : List D} {t e f h i j o : Option D} (hv : ∀ x ∈ xs, Val x) (hl : xs.length ≤ 12) : ∃ o', w8 (lE (some sc) (some k) (some fd) t e f (some (.lst true xs)) h i j o) = .ok (lE (some sc) (some k) (some fd) t e f (some (.lst true xs)) h i j o', .nx) := by
  have fx : fzs xs = true := fzs_all.mpr fun x m => (hv x m).fz
  have z : Wp (w8 (lE (some sc) (some k) (some fd) t e f (some (.lst true xs)) h i j o)) fun q => ∃ o', q = (lE (some sc) (some k) (some fd) t e f (some (.lst true xs)) h i j o', .nx) := by
    unfold w8
    refine wp_for (fun p ρ => ∃ o', ρ = lE (some sc) (some k) (some fd) t e f (some (.lst true xs)) h i j o') (vItems_slot (i := 6) rfl rfl fx) (by simp [D.fz, depOk]) ⟨o, rfl⟩ ?_ ?_
    · rintro p x q ρ hT ⟨o', rfl⟩
      have hx : Val x := hv x (by rw [hT]; simp)
      show Wp (vSeq _ _ (lE (some sc) (some k) (some fd) t e f (some (.lst true xs)) h i j (some x))) _
      rw [wp_seq]
      refine Wp.of (a := (lE (some sc) (some k) (some fd) t e f (some (.lst true xs)) h i j (some x), Ctl.nx)) ?_ ?_
      · have e1 := show_ok hx
        have e2 := text_ok hx
        have e3 := same_txt hx
        simp [fnOf, begin_, fin, outs, vSeq, vIfS, vIf, vB, vOp, vCons, vVal, vSlot, vVar, vC, vNil, vFin, resAll, Arg.res, vIce, D.ice, ices, D.fz, fzs, vSet, vRet, vRetV, vNext, vExpr, vCall, vFinC, once, owned, putB, fIxA, ixA, ixD, D.seq?, atI0, atI1, fGt, fGe, fLe, fLt, fCmp, fI2, fI, fMod, fIc, cMod, cDiv, fDiv, fSub, fPow, cPow, fAdd, fMul, vStore, vFinS, ixN, fLst, fTup, fLen, lenD, fAbs, fMax2, fMin2, fInt, fNeg, fIsN, D.isN, fIsi, D.ty?, fEq, eqD, D.sv, vNot, vAnd, vOr, vNotT, vAndT, vOrT, vChain, fIn, vAsg, gvTup, gvCons, gvName, gvNil, LIM, scal, flatV, vItems, itemsA, D.items?, vLc, lcFin, restE, wipeE, vsOk, depOk, chkO, chars_fz, fAll, vPar, two, fList, vFor, vOpI, vTurn, vMeth, vFinM, mPopAt, mAppend, Out.bind_ok, e1, e2, e3, hx.fz]
      · rw [seqQ_nx]
        have l1 : vLc [11] (vItems (vSlot 6)) (gvName 11) vTrue (vCall f_issame (vCons (vSlot 10) (vCons (vSlot 11) vNil))) (lE (some sc) (some k) (some fd) t e f (some (.lst true xs)) h i j (some x)) = .ok (lE (some sc) (some k) (some fd) t e f (some (.lst true xs)) h i j (some x), .lst true ((xs.map fun y => sm x y).map D.bl)) := by
          refine (vLc_map (ρ1 := lE (some sc) (some k) (some fd) t e f (some (.lst true xs)) h i j (some x)) (xs := xs) (dep := some (6, .lst true xs)) (fun y => .bl (sm x y)) ((vItems_slot (i := 6) rfl rfl fx).trans (by simp [D.fz])) (by simp [vsOk]) (by simp [depOk]) (by omega) (by simp [chkO, chkS, wipeE]) fun u m => ?_).trans (by rw [List.map_map]; rfl)
          have vu := hv u m
          have es := issame_ok hx vu
          simp [cTurn, vTrue, fnOf, begin_, fin, outs, vSeq, vIfS, vIf, vB, vOp, vCons, vVal, vSlot, vVar, vC, vNil, vFin, resAll, Arg.res, vIce, D.ice, ices, D.fz, fzs, vSet, vRet, vRetV, vNext, vExpr, vCall, vFinC, once, owned, putB, fIxA, ixA, ixD, D.seq?, atI0, atI1, fGt, fGe, fLe, fLt, fCmp, fI2, fI, fMod, fIc, cMod, cDiv, fDiv, fSub, fPow, cPow, fAdd, fMul, vStore, vFinS, ixN, fLst, fTup, fLen, lenD, fAbs, fMax2, fMin2, fInt, fNeg, fIsN, D.isN, fIsi, D.ty?, fEq, eqD, D.sv, vNot, vAnd, vOr, vNotT, vAndT, vOrT, vChain, fIn, vAsg, gvTup, gvCons, gvName, gvNil, LIM, scal, flatV, vItems, itemsA, D.items?, vLc, lcFin, restE, wipeE, vsOk, depOk, chkO, chars_fz, fAll, vPar, two, fList, vFor, vOpI, vTurn, vMeth, vFinM, mPopAt, mAppend, Out.bind_ok, es, vu.fz, hx.fz]
        have l2 : vLc [11] (vItems (vSlot 6)) (gvName 11) vTrue (vCall f_same (vCons (vSlot 10) (vCons (vSlot 11) vNil))) (lE (some sc) (some k) (some fd) t e f (some (.lst true xs)) h i j (some x)) = .ok (lE (some sc) (some k) (some fd) t e f (some (.lst true xs)) h i j (some x), .lst true ((xs.map fun y => sm x y).map D.bl)) := by
          refine (vLc_map (ρ1 := lE (some sc) (some k) (some fd) t e f (some (.lst true xs)) h i j (some x)) (xs := xs) (dep := some (6, .lst true xs)) (fun y => .bl (sm x y)) ((vItems_slot (i := 6) rfl rfl fx).trans (by simp [D.fz])) (by simp [vsOk]) (by simp [depOk]) (by omega) (by simp [chkO, chkS, wipeE]) fun u m => ?_).trans (by rw [List.map_map]; rfl)
          have vu := hv u m
          have es := same_val hx vu
          simp [cTurn, vTrue, fnOf, begin_, fin, outs, vSeq, vIfS, vIf, vB, vOp, vCons, vVal, vSlot, vVar, vC, vNil, vFin, resAll, Arg.res, vIce, D.ice, ices, D.fz, fzs, vSet, vRet, vRetV, vNext, vExpr, vCall, vFinC, once, owned, putB, fIxA, ixA, ixD, D.seq?, atI0, atI1, fGt, fGe, fLe, fLt, fCmp, fI2, fI, fMod, fIc, cMod, cDiv, fDiv, fSub, fPow, cPow, fAdd, fMul, vStore, vFinS, ixN, fLst, fTup, fLen, lenD, fAbs, fMax2, fMin2, fInt, fNeg, fIsN, D.isN, fIsi, D.ty?, fEq, eqD, D.sv, vNot, vAnd, vOr, vNotT, vAndT, vOrT, vChain, fIn, vAsg, gvTup, gvCons, gvName, gvNil, LIM, scal, flatV, vItems, itemsA, D.items?, vLc, lcFin, restE, wipeE, vsOk, depOk, chkO, chars_fz, fAll, vPar, two, fList, vFor, vOpI, vTurn, vMeth, vFinM, mPopAt, mAppend, Out.bind_ok, es, vu.fz, hx.fz]
        have sb := same_bls (xs := xs.map fun y => sm x y) (by rw [List.length_map]; omega)
        have c := vCall_eq (f := f_same) (vCons_eq (vVal_eq l1) (vCons_eq (vVal_eq l2) (show vNil _ = .ok (_, []) from rfl))) rfl rfl sb rfl
        refine Wp.of (a := (lE (some sc) (some k) (some fd) t e f (some (.lst true xs)) h i j (some x), Ctl.nx)) ?_ ⟨⟨some x, rfl⟩, by simp [D.fz, chkO, chkS]⟩
        exact (vIfS_f (vNotT_eq (vB_eq c))).trans rfl
    · rintro ρ ⟨o', rfl⟩
      exact ⟨o', rfl⟩
  obtain ⟨q, e2, o', rfl⟩ := z
  exact ⟨o', e2⟩
theorem law_ok {ns : List Int} (hn : ns.length ≤ 63) : f_law [.scr ns] = .ok ([.scr ns], .bl true) := by
  have z : Wp (f_law [.scr ns]) fun q => q = ([.scr ns], .bl true) := by
    unfold f_law
    refine wp_fn rfl ?_
    rw [v_law_eq, wp_seq]
    have b : begin_ 1 14 [.scr ns] = lE (some (.scr ns)) none none none none none none none none none none := rfl
    rw [b]
    obtain ⟨n, hn1, hn2⟩ : ∃ n : Nat, n ≤ 3 ∧ vOpI rng1 (vCons (vVal (vOp fMax2 (vCons (vVal (vC (.int (1)))) (vCons (vVal (vOp fMin2 (vCons (vVal (vC (.int (3)))) (vCons (vVal (vOp fLen (vCons (vSlot 0) vNil))) vNil)))) vNil)))) vNil) (lE (some (.scr ns)) none none none none none none none none none none) = .ok (lE (some (.scr ns)) none none none none none none none none none none, rangeD 0 n, none) := by
      refine ⟨max 1 (min 3 ns.length), by omega, ?_⟩
      refine vOpI_eq (as := [.val (.int (max 1 (min 3 ns.length) : Nat))]) (ds := [.int (max 1 (min 3 ns.length) : Nat)]) ?_ rfl (rng1_nat (by omega))
      have : (if (if (ns.length : Int) < 3 then (ns.length : Int) else 3) > 1 then (if (ns.length : Int) < 3 then (ns.length : Int) else 3) else 1) = ((max 1 (min 3 ns.length) : Nat) : Int) := by
        split <;> split at * <;> omega
      simp only [vCons, vVal, vOp, vC, vSlot, vNil, vFin, resAll, Arg.res, fMax2, fMin2, fI, fLen, lenD, D.seq?, Out.bind_ok, List.getElem?_cons_zero, Option.join_some, Option.bind_some, Option.map_some, List.length_map, this]
    refine wp_for (fun _ ρ => ∃ k fd t e f g h i j o, fo t = true ∧ fo i = true ∧ ρ = lE (some (.scr ns)) k fd t e f g h i j o) hn2 rfl ⟨none, none, none, none, none, none, none, none, none, none, rfl, rfl, rfl⟩ ?_ ?_
    · rintro p d q ρ hT ⟨k, fd, t, e, f, g, h, i, j, o, ht, hi, rfl⟩
      obtain ⟨m, hm, rfl⟩ := rangeD_mem (lo := 0) (n := n) (d := d) (by rw [hT]; simp)
      show Wp (wB (lE (some (.scr ns)) (some (.int (0 + m))) fd t e f g h i j o)) _
      rw [Int.zero_add]
      obtain ⟨fd0, f0, e0⟩ := w0_ok (ns := ns) (k := m) (c := fd) (t := t) (e := e) (f := f) (g := g) (h := h) (i := i) (j := j) (o := o) (by omega)
      obtain ⟨fd1, t1, e1, f1, h1, ht1, s1⟩ := w1_ok (sc := .scr ns) (k := .int m) (e := e) (f := f) (g := g) (h := h) (i := i) (j := j) (o := o) f0 ht
      obtain ⟨fd2, xs, h2, vx, lx, s2⟩ := w2_ok (sc := .scr ns) (k := .int m) (e := e1) (f := f1) (g := g) (h := h) (i := i) (j := j) (o := o) h1 ht1
      obtain ⟨i4, hi4, s4⟩ := w4_ok (sc := .scr ns) (k := .int m) (fd := fd2) (t := t1) (e := e1) (f := f1) (j := j) (o := o) vx lx hi
      have uv : ∀ u ∈ uni xs, Val u := uni_val (fun _ m => nomatch m) vx
      have un : (uni xs).Nodup := uni_nd (fun _ m => nomatch m) vx List.nodup_nil
      have ul : (uni xs).length ≤ 12 := by
        have := uni_len (xs := xs) (acc := [])
        simp at this
        unfold uni
        omega
      have s5 := w5_ok (sc := .scr ns) (k := .int m) (fd := fd2) (t := t1) (e := e1) (f := f1) (g := some (.lst true xs)) (j := j) (o := o) uv un ul hi4
      obtain ⟨fd6, c6, h6, gc, s6⟩ := w6_ok (sc := .scr ns) (k := .int m) (t := t1) (e := e1) (f := f1) (h := some (.lst true ((uni xs).mergeSort rr))) (i := i4) (j := j) (o := o) h2 vx
      have s7 := w7_ok (sc := .scr ns) (k := .int m) (fd := fd6) (t := t1) (e := e1) (f := f1) (g := some (.lst true xs)) (i := i4) (o := o) vx lx gc
      obtain ⟨o8, s8⟩ := w8_ok (sc := .scr ns) (k := .int m) (fd := fd6) (t := t1) (e := e1) (f := f1) (h := some (.lst true ((uni xs).mergeSort rr))) (i := i4) (j := some c6) (o := o) vx lx
      unfold wB
      rw [wp_seq]; refine Wp.of e0 ?_; rw [seqQ_nx]
      rw [wp_seq]; refine Wp.of s1 ?_; rw [seqQ_nx]
      rw [wp_seq]; refine Wp.of s2 ?_; rw [seqQ_nx]
      rw [wp_seq]; refine Wp.of w3_ok ?_; rw [seqQ_nx]
      rw [wp_seq]; refine Wp.of s4 ?_; rw [seqQ_nx]
      rw [wp_seq]; refine Wp.of s5 ?_; rw [seqQ_nx]
      rw [wp_seq]; refine Wp.of s6 ?_; rw [seqQ_nx]
      rw [wp_seq]; refine Wp.of s7 ?_; rw [seqQ_nx]
      exact Wp.of s8 ⟨⟨_, _, _, _, _, _, _, _, _, _, ht1, hi4, rfl⟩, rfl⟩
    · rintro ρ ⟨k, fd, t, e, f, g, h, i, j, o, ht, hi, rfl⟩
      rw [seqQ_nx]
      exact Wp.of rfl ⟨[.scr ns], rfl, rfl⟩
  obtain ⟨q, e, rfl⟩ := z
  exact e
end Law

set_option Elab.async false
set_option linter.all false
set_option maxRecDepth 100000
set_option maxHeartbeats 4000000
namespace Law
open PySem L2 EV
theorem all_mk {w : World} {K : PySem.W.Frag} {h : Heap} {mg : Str → Option Value} {fa kA f_isname f_kindof f_isvalue f_issame f_rank f_inorder f_show f_feed f_take f_mixed f_titles f_value f_same f_named f_thing f_lrank f_text f_law : Addr} {oc_isname kV_isname dc_isname pm_isname cd_isname ct_isname oc_kindof kV_kindof dc_kindof pm_kindof cd_kindof ct_kindof oc_isvalue kV_isvalue dc_isvalue pm_isvalue cd_isvalue ct_isvalue oc_issame kV_issame dc_issame pm_issame cd_issame ct_issame oc_rank kV_rank dc_rank pm_rank cd_rank ct_rank oc_inorder kV_inorder dc_inorder pm_inorder cd_inorder ct_inorder oc_show kV_show dc_show pm_show cd_show ct_show oc_feed kV_feed dc_feed pm_feed cd_feed ct_feed oc_take kV_take dc_take pm_take cd_take ct_take oc_mixed kV_mixed dc_mixed pm_mixed cd_mixed ct_mixed oc_titles kV_titles dc_titles pm_titles cd_titles ct_titles oc_value kV_value dc_value pm_value cd_value ct_value oc_same kV_same dc_same pm_same cd_same ct_same oc_named kV_named dc_named pm_named cd_named ct_named oc_thing kV_thing dc_thing pm_thing cd_thing ct_thing oc_lrank kV_lrank dc_lrank pm_lrank cd_lrank ct_lrank oc_text kV_text dc_text pm_text cd_text ct_text oc_law kV_law dc_law pm_law cd_law ct_law : Value} {od_isname an_isname od_kindof an_kindof od_isvalue an_isvalue od_issame an_issame od_rank an_rank od_inorder an_inorder od_show an_show od_feed an_feed od_take an_take od_mixed an_mixed od_titles an_titles od_value an_value od_same an_same od_named an_named od_thing an_thing od_lrank an_lrank od_text an_text od_law an_law : Option Addr} {sl_isname sl_kindof sl_isvalue sl_issame sl_rank sl_inorder sl_show sl_feed sl_take sl_mixed sl_titles sl_value sl_same sl_named sl_thing sl_lrank sl_text sl_law tds : Array (Option Value)} {its : Array Value} {tdn : Nat} {tL tF tM : Tok}
    (X : K.In h) (G : h.Ns mainGlobals mg) (hfa : mg "law" = some (.ref fa))
    (a_isname : PySem.W.nsIn K mainGlobals "is_name" = some (some (.ref f_isname)))
    (l_isname : K.lookup f_isname = some ⟨oc_isname, od_isname, .func (PySem.W.fnOf "is_name" "is_name" (defArgs s_isname) (defBody s_isname) (defScope s_isname) .none kV_isname dc_isname pm_isname an_isname cd_isname ct_isname), sl_isname⟩)
    (c_isname : PySem.W.codeIn K cd_isname "is_name" = true)
    (k_isname : PySem.W.keepIn K (.ref f_isname) = true)
    (a_kindof : PySem.W.nsIn K mainGlobals "kind_of" = some (some (.ref f_kindof)))
    (l_kindof : K.lookup f_kindof = some ⟨oc_kindof, od_kindof, .func (PySem.W.fnOf "kind_of" "kind_of" (defArgs s_kindof) (defBody s_kindof) (defScope s_kindof) .none kV_kindof dc_kindof pm_kindof an_kindof cd_kindof ct_kindof), sl_kindof⟩)
    (c_kindof : PySem.W.codeIn K cd_kindof "kind_of" = true)
    (k_kindof : PySem.W.keepIn K (.ref f_kindof) = true)
    (a_isvalue : PySem.W.nsIn K mainGlobals "is_value" = some (some (.ref f_isvalue)))
    (l_isvalue : K.lookup f_isvalue = some ⟨oc_isvalue, od_isvalue, .func (PySem.W.fnOf "is_value" "is_value" (defArgs s_isvalue) (defBody s_isvalue) (defScope s_isvalue) .none kV_isvalue dc_isvalue pm_isvalue an_isvalue cd_isvalue ct_isvalue), sl_isvalue⟩)
    (c_isvalue : PySem.W.codeIn K cd_isvalue "is_value" = true)
    (k_isvalue : PySem.W.keepIn K (.ref f_isvalue) = true)
    (a_issame : PySem.W.nsIn K mainGlobals "is_same" = some (some (.ref f_issame)))
    (l_issame : K.lookup f_issame = some ⟨oc_issame, od_issame, .func (PySem.W.fnOf "is_same" "is_same" (defArgs s_issame) (defBody s_issame) (defScope s_issame) .none kV_issame dc_issame pm_issame an_issame cd_issame ct_issame), sl_issame⟩)
    (c_issame : PySem.W.codeIn K cd_issame "is_same" = true)
    (k_issame : PySem.W.keepIn K (.ref f_issame) = true)
    (a_rank : PySem.W.nsIn K mainGlobals "rank" = some (some (.ref f_rank)))
    (l_rank : K.lookup f_rank = some ⟨oc_rank, od_rank, .func (PySem.W.fnOf "rank" "rank" (defArgs s_rank) (defBody s_rank) (defScope s_rank) .none kV_rank dc_rank pm_rank an_rank cd_rank ct_rank), sl_rank⟩)
    (c_rank : PySem.W.codeIn K cd_rank "rank" = true)
    (k_rank : PySem.W.keepIn K (.ref f_rank) = true)
    (a_inorder : PySem.W.nsIn K mainGlobals "in_order" = some (some (.ref f_inorder)))
    (l_inorder : K.lookup f_inorder = some ⟨oc_inorder, od_inorder, .func (PySem.W.fnOf "in_order" "in_order" (defArgs s_inorder) (defBody s_inorder) (defScope s_inorder) .none kV_inorder dc_inorder pm_inorder an_inorder cd_inorder ct_inorder), sl_inorder⟩)
    (c_inorder : PySem.W.codeIn K cd_inorder "in_order" = true)
    (k_inorder : PySem.W.keepIn K (.ref f_inorder) = true)
    (a_show : PySem.W.nsIn K mainGlobals "show" = some (some (.ref f_show)))
    (l_show : K.lookup f_show = some ⟨oc_show, od_show, .func (PySem.W.fnOf "show" "show" (defArgs s_show) (defBody s_show) (defScope s_show) .none kV_show dc_show pm_show an_show cd_show ct_show), sl_show⟩)
    (c_show : PySem.W.codeIn K cd_show "show" = true)
    (k_show : PySem.W.keepIn K (.ref f_show) = true)
    (a_feed : PySem.W.nsIn K mainGlobals "_law_feed" = some (some (.ref f_feed)))
    (l_feed : K.lookup f_feed = some ⟨oc_feed, od_feed, .func (PySem.W.fnOf "_law_feed" "_law_feed" (defArgs s_feed) (defBody s_feed) (defScope s_feed) .none kV_feed dc_feed pm_feed an_feed cd_feed ct_feed), sl_feed⟩)
    (c_feed : PySem.W.codeIn K cd_feed "_law_feed" = true)
    (k_feed : PySem.W.keepIn K (.ref f_feed) = true)
    (a_take : PySem.W.nsIn K mainGlobals "_law_take" = some (some (.ref f_take)))
    (l_take : K.lookup f_take = some ⟨oc_take, od_take, .func (PySem.W.fnOf "_law_take" "_law_take" (defArgs s_take) (defBody s_take) (defScope s_take) .none kV_take dc_take pm_take an_take cd_take ct_take), sl_take⟩)
    (c_take : PySem.W.codeIn K cd_take "_law_take" = true)
    (k_take : PySem.W.keepIn K (.ref f_take) = true)
    (a_mixed : PySem.W.nsIn K mainGlobals "_law_mixed" = some (some (.ref f_mixed)))
    (l_mixed : K.lookup f_mixed = some ⟨oc_mixed, od_mixed, .func (PySem.W.fnOf "_law_mixed" "_law_mixed" (defArgs s_mixed) (defBody s_mixed) (defScope s_mixed) .none kV_mixed dc_mixed pm_mixed an_mixed cd_mixed ct_mixed), sl_mixed⟩)
    (c_mixed : PySem.W.codeIn K cd_mixed "_law_mixed" = true)
    (k_mixed : PySem.W.keepIn K (.ref f_mixed) = true)
    (a_titles : PySem.W.nsIn K mainGlobals "_law_titles" = some (some (.ref f_titles)))
    (l_titles : K.lookup f_titles = some ⟨oc_titles, od_titles, .func (PySem.W.fnOf "_law_titles" "_law_titles" (defArgs s_titles) (defBody s_titles) (defScope s_titles) .none kV_titles dc_titles pm_titles an_titles cd_titles ct_titles), sl_titles⟩)
    (c_titles : PySem.W.codeIn K cd_titles "_law_titles" = true)
    (k_titles : PySem.W.keepIn K (.ref f_titles) = true)
    (a_value : PySem.W.nsIn K mainGlobals "_law_value" = some (some (.ref f_value)))
    (l_value : K.lookup f_value = some ⟨oc_value, od_value, .func (PySem.W.fnOf "_law_value" "_law_value" (defArgs s_value) (defBody s_value) (defScope s_value) .none kV_value dc_value pm_value an_value cd_value ct_value), sl_value⟩)
    (c_value : PySem.W.codeIn K cd_value "_law_value" = true)
    (k_value : PySem.W.keepIn K (.ref f_value) = true)
    (a_same : PySem.W.nsIn K mainGlobals "_law_same" = some (some (.ref f_same)))
    (l_same : K.lookup f_same = some ⟨oc_same, od_same, .func (PySem.W.fnOf "_law_same" "_law_same" (defArgs s_same) (defBody s_same) (defScope s_same) .none kV_same dc_same pm_same an_same cd_same ct_same), sl_same⟩)
    (c_same : PySem.W.codeIn K cd_same "_law_same" = true)
    (k_same : PySem.W.keepIn K (.ref f_same) = true)
    (a_named : PySem.W.nsIn K mainGlobals "_law_named" = some (some (.ref f_named)))
    (l_named : K.lookup f_named = some ⟨oc_named, od_named, .func (PySem.W.fnOf "_law_named" "_law_named" (defArgs s_named) (defBody s_named) (defScope s_named) .none kV_named dc_named pm_named an_named cd_named ct_named), sl_named⟩)
    (c_named : PySem.W.codeIn K cd_named "_law_named" = true)
    (k_named : PySem.W.keepIn K (.ref f_named) = true)
    (a_thing : PySem.W.nsIn K mainGlobals "_law_thing" = some (some (.ref f_thing)))
    (l_thing : K.lookup f_thing = some ⟨oc_thing, od_thing, .func (PySem.W.fnOf "_law_thing" "_law_thing" (defArgs s_thing) (defBody s_thing) (defScope s_thing) .none kV_thing dc_thing pm_thing an_thing cd_thing ct_thing), sl_thing⟩)
    (c_thing : PySem.W.codeIn K cd_thing "_law_thing" = true)
    (k_thing : PySem.W.keepIn K (.ref f_thing) = true)
    (a_lrank : PySem.W.nsIn K mainGlobals "_law_rank" = some (some (.ref f_lrank)))
    (l_lrank : K.lookup f_lrank = some ⟨oc_lrank, od_lrank, .func (PySem.W.fnOf "_law_rank" "_law_rank" (defArgs s_lrank) (defBody s_lrank) (defScope s_lrank) .none kV_lrank dc_lrank pm_lrank an_lrank cd_lrank ct_lrank), sl_lrank⟩)
    (c_lrank : PySem.W.codeIn K cd_lrank "_law_rank" = true)
    (k_lrank : PySem.W.keepIn K (.ref f_lrank) = true)
    (a_text : PySem.W.nsIn K mainGlobals "_law_text" = some (some (.ref f_text)))
    (l_text : K.lookup f_text = some ⟨oc_text, od_text, .func (PySem.W.fnOf "_law_text" "_law_text" (defArgs s_text) (defBody s_text) (defScope s_text) .none kV_text dc_text pm_text an_text cd_text ct_text), sl_text⟩)
    (c_text : PySem.W.codeIn K cd_text "_law_text" = true)
    (k_text : PySem.W.keepIn K (.ref f_text) = true)
    (a_law : PySem.W.nsIn K mainGlobals "law" = some (some (.ref f_law)))
    (l_law : K.lookup f_law = some ⟨oc_law, od_law, .func (PySem.W.fnOf "law" "law" (defArgs s_law) (defBody s_law) (defScope s_law) .none kV_law dc_law pm_law an_law cd_law ct_law), sl_law⟩)
    (c_law : PySem.W.codeIn K cd_law "law" = true)
    (k_law : PySem.W.keepIn K (.ref f_law) = true)
    (mL : PySem.W.nsIn K mainGlobals "LETTERS" = some (some (.str "abcdefghijklmnopqrstuvwxyz" tL)))
    (mF : PySem.W.nsIn K mainGlobals "FIGURES" = some (some (.str "0123456789" tF)))
    (mS : PySem.W.nsIn K mainGlobals "MOST_SIGNS" = some (some (.int 6 tM)))
    (mK : PySem.W.nsIn K mainGlobals "KINDS" = some (some (.ref kA)))
    (lK : K.lookup kA = some ⟨.type "tuple", none, .seq its tdn, tds⟩)
    (iK : ∃ t0 t1 t2 t3, its = [Value.str "none" t0, .str "number" t1, .str "word" t2, .str "truth" t3].toArray)
    (z_len : PySem.W.nsIn K mainGlobals "len" = some none)
    (z_abs : PySem.W.nsIn K mainGlobals "abs" = some none)
    (z_range : PySem.W.nsIn K mainGlobals "range" = some none)
    (z_list : PySem.W.nsIn K mainGlobals "list" = some none)
    (z_int : PySem.W.nsIn K mainGlobals "int" = some none)
    (z_str : PySem.W.nsIn K mainGlobals "str" = some none)
    (z_isinstance : PySem.W.nsIn K mainGlobals "isinstance" = some none)
    (z_bool : PySem.W.nsIn K mainGlobals "bool" = some none)
    (z_all : PySem.W.nsIn K mainGlobals "all" = some none)
    (z_sorted : PySem.W.nsIn K mainGlobals "sorted" = some none)
    (z_repr : PySem.W.nsIn K mainGlobals "repr" = some none)
    (z_enumerate : PySem.W.nsIn K mainGlobals "enumerate" = some none)
    (z_tuple : PySem.W.nsIn K mainGlobals "tuple" = some none)
    (z_max : PySem.W.nsIn K mainGlobals "max" = some none)
    (z_min : PySem.W.nsIn K mainGlobals "min" = some none) :
    ∃ fd : FuncData, (∀ (s : Shared) (v : Value), BindsTo s fd ⟨[v], []⟩ [("_law_script", v)]) ∧ ∀ base : Heap, K.In base → base.Ns mainGlobals mg → FnG PySem.Challenge.pw_hadnot_k02_names_and_values w K mg base CX0 4 fa fd ["_law_script"] (spLaw K) := by
  have e := hfa.symm.trans (PySem.W.mg_of X G a_law)
  cases e
  have nn : ∀ x, PySem.W.nsIn K mainGlobals x = some none → mg x = none := fun x z => PySem.W.mg_none_of X G z
  obtain ⟨t0, t1, t2, t3, rfl⟩ := iK
  have T : Tx K mg kA tL tF tM := ⟨nn _ z_len, nn _ z_abs, nn _ z_range, nn _ z_list, nn _ z_int, nn _ z_str, nn _ z_isinstance, nn _ z_bool, nn _ z_all, nn _ z_sorted, nn _ z_repr, nn _ z_enumerate, nn _ z_tuple, nn _ z_max, nn _ z_min, PySem.W.mg_of X G mL, PySem.W.mg_of X G mF, PySem.W.mg_of X G mS, PySem.W.mg_of X G mK, ⟨_, _, _, lK, rfl, rfl, rfl, (show 4 ≤ sizeLine by decide), .cons ⟨_, rfl⟩ (.cons ⟨_, rfl⟩ (.cons ⟨_, rfl⟩ (.cons ⟨_, rfl⟩ .nil)))⟩⟩
  refine ⟨_, fun s v => .of_eq rfl, fun base _ _ => ok_law (fun_mk (st := s_law) l_law c_law k_law) T ?_⟩
  have o1 : O1 PySem.Challenge.pw_hadnot_k02_names_and_values w K mg base := ⟨ok_isname (base := base) (w := w) (P := PySem.Challenge.pw_hadnot_k02_names_and_values) (def_mk X G a_isname l_isname c_isname k_isname) T⟩
  have o2 : O2 PySem.Challenge.pw_hadnot_k02_names_and_values w K mg base := ⟨o1, ok_kindof (base := base) (w := w) (P := PySem.Challenge.pw_hadnot_k02_names_and_values) (def_mk X G a_kindof l_kindof c_kindof k_kindof) T o1⟩
  have o3 : O3 PySem.Challenge.pw_hadnot_k02_names_and_values w K mg base := ⟨o2, ok_isvalue (base := base) (w := w) (P := PySem.Challenge.pw_hadnot_k02_names_and_values) (def_mk X G a_isvalue l_isvalue c_isvalue k_isvalue) T o2⟩
  have o4 : O4 PySem.Challenge.pw_hadnot_k02_names_and_values w K mg base := ⟨o3, ok_issame (base := base) (w := w) (P := PySem.Challenge.pw_hadnot_k02_names_and_values) (def_mk X G a_issame l_issame c_issame k_issame) T o3⟩
  have o5 : O5 PySem.Challenge.pw_hadnot_k02_names_and_values w K mg base := ⟨o4, ok_rank (base := base) (w := w) (P := PySem.Challenge.pw_hadnot_k02_names_and_values) (def_mk X G a_rank l_rank c_rank k_rank) T o4⟩
  have o6 : O6 PySem.Challenge.pw_hadnot_k02_names_and_values w K mg base := ⟨o5, ok_inorder (base := base) (w := w) (P := PySem.Challenge.pw_hadnot_k02_names_and_values) (def_mk X G a_inorder l_inorder c_inorder k_inorder) T o5⟩
  have o7 : O7 PySem.Challenge.pw_hadnot_k02_names_and_values w K mg base := ⟨o6, ok_show (base := base) (w := w) (P := PySem.Challenge.pw_hadnot_k02_names_and_values) (def_mk X G a_show l_show c_show k_show) T o6⟩
  have o8 : O8 PySem.Challenge.pw_hadnot_k02_names_and_values w K mg base := ⟨o7, ok_feed (base := base) (w := w) (P := PySem.Challenge.pw_hadnot_k02_names_and_values) (def_mk X G a_feed l_feed c_feed k_feed) T o7⟩
  have o9 : O9 PySem.Challenge.pw_hadnot_k02_names_and_values w K mg base := ⟨o8, ok_take (base := base) (w := w) (P := PySem.Challenge.pw_hadnot_k02_names_and_values) (def_mk X G a_take l_take c_take k_take) T o8⟩
  have o10 : O10 PySem.Challenge.pw_hadnot_k02_names_and_values w K mg base := ⟨o9, ok_mixed (base := base) (w := w) (P := PySem.Challenge.pw_hadnot_k02_names_and_values) (def_mk X G a_mixed l_mixed c_mixed k_mixed) T o9⟩
  have o11 : O11 PySem.Challenge.pw_hadnot_k02_names_and_values w K mg base := ⟨o10, ok_titles (base := base) (w := w) (P := PySem.Challenge.pw_hadnot_k02_names_and_values) (def_mk X G a_titles l_titles c_titles k_titles) T o10⟩
  have o12 : O12 PySem.Challenge.pw_hadnot_k02_names_and_values w K mg base := ⟨o11, ok_value (base := base) (w := w) (P := PySem.Challenge.pw_hadnot_k02_names_and_values) (def_mk X G a_value l_value c_value k_value) T o11⟩
  have o13 : O13 PySem.Challenge.pw_hadnot_k02_names_and_values w K mg base := ⟨o12, ok_same (base := base) (w := w) (P := PySem.Challenge.pw_hadnot_k02_names_and_values) (def_mk X G a_same l_same c_same k_same) T o12⟩
  have o14 : O14 PySem.Challenge.pw_hadnot_k02_names_and_values w K mg base := ⟨o13, ok_named (base := base) (w := w) (P := PySem.Challenge.pw_hadnot_k02_names_and_values) (def_mk X G a_named l_named c_named k_named) T o13⟩
  have o15 : O15 PySem.Challenge.pw_hadnot_k02_names_and_values w K mg base := ⟨o14, ok_thing (base := base) (w := w) (P := PySem.Challenge.pw_hadnot_k02_names_and_values) (def_mk X G a_thing l_thing c_thing k_thing) T o14⟩
  have o16 : O16 PySem.Challenge.pw_hadnot_k02_names_and_values w K mg base := ⟨o15, ok_lrank (base := base) (w := w) (P := PySem.Challenge.pw_hadnot_k02_names_and_values) (def_mk X G a_lrank l_lrank c_lrank k_lrank) T o15⟩
  have o17 : O17 PySem.Challenge.pw_hadnot_k02_names_and_values w K mg base := ⟨o16, ok_text (base := base) (w := w) (P := PySem.Challenge.pw_hadnot_k02_names_and_values) (def_mk X G a_text l_text c_text k_text) T o16⟩
  exact o17
end Law

set_option Elab.async false
set_option linter.all false
namespace Law
open PySem L2 EV
theorem sp_law {K : PySem.W.Frag} {H : Hp} {a : Addr} {ns : List Int} (hl : ns.length ≤ 63) (hS : SqL K H a (ns.map V.int)) : spLaw K [.ref a] H (fun v _ => v = .bl true) fun _ _ _ => False := by
  refine ⟨[.scr ns], fun _ => False, fun _ => [], ⟨fun i d h => ?_, fun _ => List.nodup_nil, fun _ _ _ m => (nomatch m), fun _ _ m => (nomatch m), fun _ z => False.elim z, fun _ _ m => (nomatch m), rfl⟩, ?_⟩
  · cases i with
    | zero =>
      cases h
      refine ⟨.ref a, rfl, .scr ?_⟩
      rcases hS with h | h
      · exact .inl ⟨h, fun z => z.elim id fun ⟨_, m⟩ => nomatch m⟩
      · exact .inr h
    | succ i => simp at h
  · rw [law_ok hl]
    intro v H' S' s _ r _ _ _
    cases r
    rfl
end Law
open PySem PySem.W PyProof.Rows in
set_option maxRecDepth 100000 in
set_option maxHeartbeats 0 in
theorem PySem.Challenge.cw_hadnot_k02_names_and_values_holds : PySem.Challenge.rw_hadnot_k02_names_and_values.Holds := by
  w_on; o_law; k_head; (case hw => w_witness2)
  k_fill
  refine L2.walk_ofG (l := PySem.Challenge.rw_hadnot_k02_names_and_values) (n := 63) (k := 4) (x := "_law_script") (sp := Law.spLaw) rfl (by decide) rfl ⟨rfl, by decide, by decide⟩ (fun w h Y => PySem.W.kIn_of Y) ?F (fun K H a ns hl _ hS => Law.sp_law hl hS)
  case F =>
    intro w mg fa h KX G hmg
    refine' Law.all_mk KX G hmg ?a_isname ?l_isname ?c_isname ?k_isname ?a_kindof ?l_kindof ?c_kindof ?k_kindof ?a_isvalue ?l_isvalue ?c_isvalue ?k_isvalue ?a_issame ?l_issame ?c_issame ?k_issame ?a_rank ?l_rank ?c_rank ?k_rank ?a_inorder ?l_inorder ?c_inorder ?k_inorder ?a_show ?l_show ?c_show ?k_show ?a_feed ?l_feed ?c_feed ?k_feed ?a_take ?l_take ?c_take ?k_take ?a_mixed ?l_mixed ?c_mixed ?k_mixed ?a_titles ?l_titles ?c_titles ?k_titles ?a_value ?l_value ?c_value ?k_value ?a_same ?l_same ?c_same ?k_same ?a_named ?l_named ?c_named ?k_named ?a_thing ?l_thing ?c_thing ?k_thing ?a_lrank ?l_lrank ?c_lrank ?k_lrank ?a_text ?l_text ?c_text ?k_text ?a_law ?l_law ?c_law ?k_law ?mL ?mF ?mS ?mK ?lK ?iK ?z_len ?z_abs ?z_range ?z_list ?z_int ?z_str ?z_isinstance ?z_bool ?z_all ?z_sorted ?z_repr ?z_enumerate ?z_tuple ?z_max ?z_min
    (case a_isname => k_is)
    (case l_isname => k_is)
    (case c_isname => k_is)
    (case k_isname => k_is)
    (case a_kindof => k_is)
    (case l_kindof => k_is)
    (case c_kindof => k_is)
    (case k_kindof => k_is)
    (case a_isvalue => k_is)
    (case l_isvalue => k_is)
    (case c_isvalue => k_is)
    (case k_isvalue => k_is)
    (case a_issame => k_is)
    (case l_issame => k_is)
    (case c_issame => k_is)
    (case k_issame => k_is)
    (case a_rank => k_is)
    (case l_rank => k_is)
    (case c_rank => k_is)
    (case k_rank => k_is)
    (case a_inorder => k_is)
    (case l_inorder => k_is)
    (case c_inorder => k_is)
    (case k_inorder => k_is)
    (case a_show => k_is)
    (case l_show => k_is)
    (case c_show => k_is)
    (case k_show => k_is)
    (case a_feed => k_is)
    (case l_feed => k_is)
    (case c_feed => k_is)
    (case k_feed => k_is)
    (case a_take => k_is)
    (case l_take => k_is)
    (case c_take => k_is)
    (case k_take => k_is)
    (case a_mixed => k_is)
    (case l_mixed => k_is)
    (case c_mixed => k_is)
    (case k_mixed => k_is)
    (case a_titles => k_is)
    (case l_titles => k_is)
    (case c_titles => k_is)
    (case k_titles => k_is)
    (case a_value => k_is)
    (case l_value => k_is)
    (case c_value => k_is)
    (case k_value => k_is)
    (case a_same => k_is)
    (case l_same => k_is)
    (case c_same => k_is)
    (case k_same => k_is)
    (case a_named => k_is)
    (case l_named => k_is)
    (case c_named => k_is)
    (case k_named => k_is)
    (case a_thing => k_is)
    (case l_thing => k_is)
    (case c_thing => k_is)
    (case k_thing => k_is)
    (case a_lrank => k_is)
    (case l_lrank => k_is)
    (case c_lrank => k_is)
    (case k_lrank => k_is)
    (case a_text => k_is)
    (case l_text => k_is)
    (case c_text => k_is)
    (case k_text => k_is)
    (case a_law => k_is)
    (case l_law => k_is)
    (case c_law => k_is)
    (case k_law => k_is)
    (case mL => k_is)
    (case mF => k_is)
    (case mS => k_is)
    (case mK => k_is)
    (case lK => k_is)
    (case iK => exact ⟨_, _, _, _, rfl⟩)
    (case z_len => k_is)
    (case z_abs => k_is)
    (case z_range => k_is)
    (case z_list => k_is)
    (case z_int => k_is)
    (case z_str => k_is)
    (case z_isinstance => k_is)
    (case z_bool => k_is)
    (case z_all => k_is)
    (case z_sorted => k_is)
    (case z_repr => k_is)
    (case z_enumerate => k_is)
    (case z_tuple => k_is)
    (case z_max => k_is)
    (case z_min => k_is)
